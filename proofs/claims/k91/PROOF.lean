import PyProof.Rows.All
import Wide.All
import OpenK.AllK
import Wide.FinOn
import HandS.ForMost
import HandS.ForExc
import HandS.CallSlots
import HandS.FStr
import HandS.ExcInit
import KE.KExcSuper
import KE.KExcMake
import PyProof.FString
import PyProof.FString4
import HandS.ExcField
import HandS.ExcIs
import HandS.IsInst
import HandS.TryOnly
import KE.KExcIs
import HandS.ExcOwn
import HandS.Ends
import HandS.IterVal
import HandS.WordsExc
import HandS.EndBits
import PySem.Challenge.RW_crossinglights_k91_row_text
set_option Elab.async false
set_option linter.all false
set_option Elab.async false
set_option linter.all false
set_option maxRecDepth 100000
set_option maxHeartbeats 4000000
/-! Ml1: a small value semantics of defs (data D, slots, outcomes) and what it means over the abstract heap of the layer. -/
namespace Ml
open PySem L2

/-- data, by value -/
inductive D where
  | non | bl (b : Bool) | int (i : Int) | str (s : Str)
  | tup (ds : List D) | lst (ds : List D) | ins (c : Nat) (ds : List D)
  /-- a tuple (true), a list (false) of the top's or of the script: read, never written -/
  | ro (b : Bool) (ds : List D)

/-- a tree of objects that nobody else holds: they may change -/
inductive O where
  | fz (d : D) | lst (os : List O) | obj (c : Nat) (os : List O) | tup (os : List O)
/-- what a local name holds: nothing, data that stands, a list of its own (it may change), an object of its own that is being made, a caught exception, a tree of its own -/
inductive Slot where
  | un | fz (d : D) | own (ds : List D) | obj (c : Nat) (ds : List D) | exv (c : Nat) (ds : List D) | tr (t : O)
def tree : Slot → Option O
  | .own ds => some (.lst (ds.map .fz))
  | .obj c ds => some (.obj c (ds.map .fz))
  | .tr (.fz _) => none
  | .tr t => some t
  | _ => none
abbrev Rho := List Slot

/-- what an expression comes to -/
inductive EO (α : Type) where
  | ok (a : α) (r : Rho) | exc (c : Nat) (fs : List D) (r : Rho) | bad
abbrev EM (α : Type) := Rho → EO α
def EO.bind {α β : Type} (x : EO α) (f : α → Rho → EO β) : EO β := match x with
  | .ok a r => f a r
  | .exc c fs r => .exc c fs r
  | .bad => .bad
/-- what a statement comes to -/
inductive SO where
  | nx (r : Rho) | rt (v : Slot) (r : Rho) | brk (r : Rho) | cnt (r : Rho) | exc (c : Nat) (fs : List D) (r : Rho) | bad
abbrev SM := Rho → SO
def EO.seq {α : Type} (x : EO α) (f : α → Rho → SO) : SO := match x with
  | .ok a r => f a r
  | .exc c fs r => .exc c fs r
  | .bad => .bad
/-- what a def comes to: its value (data, or a new list), its arguments behind it -/
inductive FO where
  | ret (v : Slot) (outs : Rho) | exc (c : Nat) (fs : List D) (outs : Rho) | bad

/-- the classes of the text: where each stands, the attributes of its instances in order, those of its exceptions -/
structure Tab where
  cls : Nat → Addr
  flds : Nat → List Str
  efl : Nat → List Str

section
variable (K : PySem.W.Frag) (T : Tab)
mutual
inductive Rep (H : Hp) : V → D → Prop
  | non : Rep H .non .non
  | bl (b : Bool) : Rep H (.bl b) (.bl b)
  | int (i : Int) : Rep H (.int i) (.int i)
  | str (s : Str) : Rep H (.str s) (.str s)
  | tup {a : Addr} {vs : List V} {ds : List D} : H a = some (.tup vs) → Reps H vs ds → Rep H (.ref a) (.tup ds)
  | lst {a : Addr} {vs : List V} {ds : List D} : H a = some (.lst vs) → Reps H vs ds → Rep H (.ref a) (.lst ds)
  | roT {a : Addr} {vs : List V} {ds : List D} : SqT K H a vs → Reps H vs ds → Rep H (.ref a) (.ro true ds)
  | roL {a : Addr} {vs : List V} {ds : List D} : SqL K H a vs → Reps H vs ds → Rep H (.ref a) (.ro false ds)
  | ins {a dx : Addr} {c : Nat} {vs : List V} {ds : List D} : H a = some (.ins (T.cls c) dx ((T.flds c).zip vs)) → vs.length = (T.flds c).length → Reps H vs ds → Rep H (.ref a) (.ins c ds)
inductive Reps (H : Hp) : List V → List D → Prop
  | nil : Reps H [] []
  | cons {v : V} {d : D} {vs : List V} {ds : List D} : Rep H v d → Reps H vs ds → Reps H (v :: vs) (d :: ds)
end
end

def Sub (H H' : Hp) : Prop := ∀ a o, H a = some o → H' a = some o
theorem Sub.refl (H : Hp) : Sub H H := fun _ _ h => h
theorem Sub.trans {H H1 H2 : Hp} (a : Sub H H1) (b : Sub H1 H2) : Sub H H2 := fun x o h => b x o (a x o h)
theorem Sub.gone {H H' : Hp} (s : Sub H H') {a : Addr} (h : H' a = none) : H a = none := by
  cases q : H a with
  | none => rfl
  | some o => rw [s a o q] at h; cases h
theorem Sub.fresh {H : Hp} {p : Addr} {o : HO} (h : H p = none) : Sub H (upd H p o) := fun a u e => by
  rw [upd_ne (ne_of_none e h)]; exact e
theorem Sub.both {H0 H : Hp} {p : Addr} {o : HO} (s : Sub H0 H) : Sub (upd H0 p o) (upd H p o) := fun a u e => by
  by_cases h : a = p
  · subst h; rw [upd_same] at e ⊢; exact e
  · rw [upd_ne h] at e ⊢; exact s a u e
/-- what H does not hold may stand otherwise -/
theorem Sub.into {H0 H : Hp} {p : Addr} {o : HO} (s : Sub H0 H) (h : H0 p = none) : Sub H0 (upd H p o) := fun a u e => by
  rw [upd_ne (ne_of_none e h)]; exact s a u e
theorem Sub.sqL {K : PySem.W.Frag} {H H' : Hp} (s : Sub H H') {a : Addr} {xs : List V} (h : SqL K H a xs) : SqL K H' a xs := Same.seq (H := H) (H' := H') s h
theorem Sub.sqT {K : PySem.W.Frag} {H H' : Hp} (s : Sub H H') {a : Addr} {xs : List V} (h : SqT K H a xs) : SqT K H' a xs := by
  rcases h with (h | ⟨o, h⟩) | h
  · exact .inl (.inl (s _ _ h))
  · exact .inl (.inr ⟨o, s _ _ h⟩)
  · exact .inr h

section
variable {K : PySem.W.Frag} {T : Tab} {H H' : Hp}
mutual
theorem Rep.mono (s : Sub H H') : ∀ {v : V} {d : D}, Rep K T H v d → Rep K T H' v d
  | _, _, .non => .non
  | _, _, .bl b => .bl b
  | _, _, .int i => .int i
  | _, _, .str x => .str x
  | _, _, .tup h r => .tup (s _ _ h) (Reps.mono s r)
  | _, _, .lst h r => .lst (s _ _ h) (Reps.mono s r)
  | _, _, .roT h r => .roT (s.sqT h) (Reps.mono s r)
  | _, _, .roL h r => .roL (s.sqL h) (Reps.mono s r)
  | _, _, .ins h l r => .ins (s _ _ h) l (Reps.mono s r)
theorem Reps.mono (s : Sub H H') : ∀ {vs : List V} {ds : List D}, Reps K T H vs ds → Reps K T H' vs ds
  | _, _, .nil => .nil
  | _, _, .cons h r => .cons (Rep.mono s h) (Reps.mono s r)
end
theorem Reps.length : ∀ {vs : List V} {ds : List D}, Reps K T H vs ds → vs.length = ds.length
  | _, _, .nil => rfl
  | _, _, .cons _ r => by simp [Reps.length r]
theorem Reps.get : ∀ {vs : List V} {ds : List D} {i : Nat} {d : D}, Reps K T H vs ds → ds[i]? = some d → ∃ v, vs[i]? = some v ∧ Rep K T H v d
  | _, _, _, _, .nil, e => by simp at e
  | _, _, 0, _, .cons h _, e => by simp at e; subst e; exact ⟨_, rfl, h⟩
  | _, _, i + 1, d, .cons _ r, e => by
    obtain ⟨v, h1, h2⟩ := Reps.get (i := i) (d := d) r (by simpa using e)
    exact ⟨v, by simpa using h1, h2⟩
theorem Reps.getV : ∀ {vs : List V} {ds : List D} {i : Nat} {v : V}, Reps K T H vs ds → vs[i]? = some v → ∃ d, ds[i]? = some d ∧ Rep K T H v d
  | _, _, _, _, .nil, e => by simp at e
  | _, _, 0, _, .cons h _, e => by simp at e; subst e; exact ⟨_, rfl, h⟩
  | _, _, i + 1, v, .cons _ r, e => by
    obtain ⟨d, h1, h2⟩ := Reps.getV (i := i) (v := v) r (by simpa using e)
    exact ⟨d, by simpa using h1, h2⟩
theorem Reps.append : ∀ {vs ws : List V} {ds es : List D}, Reps K T H vs ds → Reps K T H ws es → Reps K T H (vs ++ ws) (ds ++ es)
  | _, _, _, _, .nil, s => s
  | _, _, _, _, .cons h r, s => .cons h (Reps.append r s)
theorem Reps.take : ∀ {vs : List V} {ds : List D} (n : Nat), Reps K T H vs ds → Reps K T H (vs.take n) (ds.take n)
  | _, _, 0, _ => .nil
  | _, _, _ + 1, .nil => .nil
  | _, _, n + 1, .cons h r => .cons h (Reps.take n r)
theorem Reps.drop : ∀ {vs : List V} {ds : List D} (n : Nat), Reps K T H vs ds → Reps K T H (vs.drop n) (ds.drop n)
  | _, _, 0, r => r
  | _, _, _ + 1, .nil => .nil
  | _, _, n + 1, .cons _ r => Reps.drop n r
theorem Reps.set {v : V} {d : D} (h : Rep K T H v d) : ∀ {vs : List V} {ds : List D} (i : Nat), Reps K T H vs ds → Reps K T H (vs.set i v) (ds.set i d)
  | _, _, _, .nil => .nil
  | _, _, 0, .cons _ r => .cons h r
  | _, _, i + 1, .cons q r => .cons q (Reps.set h i r)
theorem Reps.one {v : V} {d : D} (h : Rep K T H v d) : Reps K T H [v] [d] := .cons h .nil
theorem Reps.reverse : ∀ {vs : List V} {ds : List D}, Reps K T H vs ds → Reps K T H vs.reverse ds.reverse
  | _, _, .nil => .nil
  | _, _, .cons h r => by rw [List.reverse_cons, List.reverse_cons]; exact Reps.append (Reps.reverse r) (.one h)
end

section
variable (K : PySem.W.Frag) (T : Tab)
mutual
/-- the value v is the tree t, of the objects at fp: tracked, none of them standing -/
inductive TreeOk (H H0 : Hp) : V → O → List Addr → Prop
  | fz {v : V} {d : D} : Rep K T H0 v d → TreeOk H H0 v (.fz d) []
  | lst {a : Addr} {vs : List V} {ts : List O} {fp : List Addr} : H a = some (.lst vs) → H0 a = none → TreesOk H H0 vs ts fp → TreeOk H H0 (.ref a) (.lst ts) (a :: fp)
  | tup {a : Addr} {vs : List V} {ts : List O} {fp : List Addr} : H a = some (.tup vs) → H0 a = none → TreesOk H H0 vs ts fp → TreeOk H H0 (.ref a) (.tup ts) (a :: fp)
  | obj {a dx : Addr} {c : Nat} {vs : List V} {ts : List O} {fp : List Addr} : H a = some (.ins (T.cls c) dx ((T.flds c).zip vs)) → vs.length ≤ (T.flds c).length → H0 a = none → TreesOk H H0 vs ts fp → TreeOk H H0 (.ref a) (.obj c ts) (a :: fp)
inductive TreesOk (H H0 : Hp) : List V → List O → List Addr → Prop
  | nil : TreesOk H H0 [] [] []
  | cons {v : V} {t : O} {f : List Addr} {vs : List V} {ts : List O} {g : List Addr} : TreeOk H H0 v t f → TreesOk H H0 vs ts g → TreesOk H H0 (v :: vs) (t :: ts) (f ++ g)
end
end
section
variable {K : PySem.W.Frag} {T : Tab} {H H0 H' H0' : Hp}
mutual
theorem TreeOk.mono (s : Sub H0 H0') : ∀ {v : V} {t : O} {fp : List Addr}, (∀ a ∈ fp, ∀ o, H a = some o → H0 a = none → H' a = some o ∧ H0' a = none) → TreeOk K T H H0 v t fp → TreeOk K T H' H0' v t fp
  | _, _, _, _, .fz r => .fz (r.mono s)
  | _, _, _, h, .lst e n r => .lst (h _ List.mem_cons_self _ e n).1 (h _ List.mem_cons_self _ e n).2 (TreesOk.mono s (fun a m => h a (List.mem_cons_of_mem _ m)) r)
  | _, _, _, h, .tup e n r => .tup (h _ List.mem_cons_self _ e n).1 (h _ List.mem_cons_self _ e n).2 (TreesOk.mono s (fun a m => h a (List.mem_cons_of_mem _ m)) r)
  | _, _, _, h, .obj e l n r => .obj (h _ List.mem_cons_self _ e n).1 l (h _ List.mem_cons_self _ e n).2 (TreesOk.mono s (fun a m => h a (List.mem_cons_of_mem _ m)) r)
theorem TreesOk.mono (s : Sub H0 H0') : ∀ {vs : List V} {ts : List O} {fp : List Addr}, (∀ a ∈ fp, ∀ o, H a = some o → H0 a = none → H' a = some o ∧ H0' a = none) → TreesOk K T H H0 vs ts fp → TreesOk K T H' H0' vs ts fp
  | _, _, _, _, .nil => .nil
  | _, _, _, h, .cons r q => .cons (TreeOk.mono s (fun a m => h a (List.mem_append_left _ m)) r) (TreesOk.mono s (fun a m => h a (List.mem_append_right _ m)) q)
end
mutual
theorem TreeOk.there : ∀ {v : V} {t : O} {fp : List Addr}, TreeOk K T H H0 v t fp → ∀ a ∈ fp, (∃ o, H a = some o) ∧ H0 a = none
  | _, _, _, .fz r => fun a m => by cases m
  | _, _, _, .lst e n r => fun a m => by
    rcases List.mem_cons.mp m with rfl | m
    · exact ⟨⟨_, e⟩, n⟩
    · exact TreesOk.there r a m
  | _, _, _, .tup e n r => fun a m => by
    rcases List.mem_cons.mp m with rfl | m
    · exact ⟨⟨_, e⟩, n⟩
    · exact TreesOk.there r a m
  | _, _, _, .obj e l n r => fun a m => by
    rcases List.mem_cons.mp m with rfl | m
    · exact ⟨⟨_, e⟩, n⟩
    · exact TreesOk.there r a m
theorem TreesOk.there : ∀ {vs : List V} {ts : List O} {fp : List Addr}, TreesOk K T H H0 vs ts fp → ∀ a ∈ fp, (∃ o, H a = some o) ∧ H0 a = none
  | _, _, _, .nil => fun a m => by cases m
  | _, _, _, .cons r q => fun a m => by
    rcases List.mem_append.mp m with m | m
    · exact TreeOk.there r a m
    · exact TreesOk.there q a m
end
theorem TreesOk.ofReps : ∀ {vs : List V} {ds : List D}, Reps K T H0 vs ds → TreesOk K T H H0 vs (ds.map .fz) []
  | _, _, .nil => .nil
  | _, _, .cons h r => .cons (f := []) (g := []) (.fz h) (TreesOk.ofReps r)
theorem TreesOk.reps : ∀ {vs : List V} {ds : List D} {fp : List Addr}, TreesOk K T H H0 vs (ds.map .fz) fp → fp = [] ∧ Reps K T H0 vs ds
  | _, [], _, .nil => ⟨rfl, .nil⟩
  | _, d :: ds, _, h => by
    have h : TreesOk K T H H0 _ (O.fz d :: ds.map .fz) _ := h
    cases h with
    | cons a b =>
      cases a with
      | fz r =>
        obtain ⟨e, q⟩ := TreesOk.reps b
        exact ⟨by rw [e]; rfl, .cons r q⟩
theorem TreesOk.length : ∀ {vs : List V} {ts : List O} {fp : List Addr}, TreesOk K T H H0 vs ts fp → vs.length = ts.length
  | _, _, _, .nil => rfl
  | _, _, _, .cons _ r => by simp [TreesOk.length r]
end
mutual
/-- a tree as data: its objects from now on stand -/
def O.data (fl : Nat → Nat) : O → Option D
  | .fz d => some d
  | .lst ts => (O.datas fl ts).map .lst
  | .tup ts => (O.datas fl ts).map .tup
  | .obj c ts => match O.datas fl ts with
    | some ds => if ds.length = fl c then some (.ins c ds) else none
    | none => none
def O.datas (fl : Nat → Nat) : List O → Option (List D)
  | [] => some []
  | t :: ts => match O.data fl t, O.datas fl ts with
    | some d, some ds => some (d :: ds)
    | _, _ => none
end
section
variable {K : PySem.W.Frag} {T : Tab} {H H0 H' H0' : Hp}
mutual
theorem TreeOk.rep (s : Sub H0 H0') : ∀ {v : V} {t : O} {fp : List Addr} {d : D}, (∀ a ∈ fp, H0' a = H a) → TreeOk K T H H0 v t fp → O.data (fun c => (T.flds c).length) t = some d → Rep K T H0' v d
  | _, _, _, _, _, .fz r, e => by unfold O.data at e; cases e; exact r.mono s
  | _, .lst ts, _, d, h, .lst q n r, e => by
    unfold O.data at e
    cases z : O.datas (fun c => (T.flds c).length) ts with
    | none => rw [z] at e; cases e
    | some ds =>
      rw [z] at e; cases e
      exact .lst ((h _ List.mem_cons_self).trans q) (TreesOk.rep s (fun a m => h a (List.mem_cons_of_mem _ m)) r z)
  | _, .tup ts, _, d, h, .tup q n r, e => by
    unfold O.data at e
    cases z : O.datas (fun c => (T.flds c).length) ts with
    | none => rw [z] at e; cases e
    | some ds =>
      rw [z] at e; cases e
      exact .tup ((h _ List.mem_cons_self).trans q) (TreesOk.rep s (fun a m => h a (List.mem_cons_of_mem _ m)) r z)
  | _, .obj c ts, _, d, h, .obj q l n r, e => by
    unfold O.data at e
    cases z : O.datas (fun c => (T.flds c).length) ts with
    | none => rw [z] at e; cases e
    | some ds =>
      rw [z] at e
      dsimp only at e
      split at e
      · rename_i hl
        cases e
        have k := TreesOk.rep s (fun a m => h a (List.mem_cons_of_mem _ m)) r z
        exact .ins ((h _ List.mem_cons_self).trans q) (k.length.trans hl) k
      · cases e
theorem TreesOk.rep (s : Sub H0 H0') : ∀ {vs : List V} {ts : List O} {fp : List Addr} {ds : List D}, (∀ a ∈ fp, H0' a = H a) → TreesOk K T H H0 vs ts fp → O.datas (fun c => (T.flds c).length) ts = some ds → Reps K T H0' vs ds
  | _, _, _, _, _, .nil, e => by unfold O.datas at e; cases e; exact .nil
  | _, t :: ts, _, ds, h, .cons a b, e => by
    unfold O.datas at e
    cases z1 : O.data (fun c => (T.flds c).length) t with
    | none => rw [z1] at e; cases e
    | some d =>
      cases z2 : O.datas (fun c => (T.flds c).length) ts with
      | none => rw [z1, z2] at e; cases e
      | some es =>
        rw [z1, z2] at e; cases e
        exact .cons (TreeOk.rep s (fun a m => h a (List.mem_append_left _ m)) a z1) (TreesOk.rep s (fun a m => h a (List.mem_append_right _ m)) b z2)
end
end
theorem datas_fz {fl : Nat → Nat} : ∀ ds : List D, O.datas fl (ds.map .fz) = some ds
  | [] => by simp [O.datas]
  | d :: ds => by rw [List.map_cons]; unfold O.datas; rw [datas_fz ds]; simp [O.data]

/-- the frame: the heap at its entry, the part of it that stands, what of it the frame may write, the roots of the arguments that it may change (slot, place), a caught exception: where it stands, its class, its dict -/
structure Fc where
  He : Hp
  H0e : Hp
  A : Addr → Prop
  R : List (Nat × Addr)
  xv : Addr → Value → Option Addr → Prop

def isOwn : Slot → Bool
  | .own _ => true
  | .obj _ _ => true
  | .tr (.fz _) => false
  | .tr _ => true
  | _ => false
theorem own_tree {s : Slot} (h : isOwn s = true) : ∃ t, tree s = some t ∧ ∀ d, t ≠ .fz d := by
  cases s with
  | own ds => exact ⟨_, rfl, fun d z => by cases z⟩
  | obj c ds => exact ⟨_, rfl, fun d z => by cases z⟩
  | tr t =>
    cases t with
    | fz d => cases h
    | lst ts => exact ⟨_, rfl, fun d z => by cases z⟩
    | tup ts => exact ⟨_, rfl, fun d z => by cases z⟩
    | obj c ts => exact ⟨_, rfl, fun d z => by cases z⟩
  | un => cases h
  | fz d => cases h
  | exv c ds => cases h
theorem tree_none {s : Slot} (h : isOwn s = false) : tree s = none := by
  cases s with
  | own ds => cases h
  | obj c ds => cases h
  | tr t =>
    cases t with
    | fz d => rfl
    | lst ts => cases h
    | tup ts => cases h
    | obj c ts => cases h
  | un => rfl
  | fz d => rfl
  | exv c ds => rfl
theorem tree_own {s : Slot} {t : O} (h : tree s = some t) : isOwn s = true := by
  cases o : isOwn s with
  | true => rfl
  | false => rw [tree_none o] at h; cases h

section
variable (K : PySem.W.Frag) (T : Tab) (F : Fc)
/-- an address that this frame may write -/
def Mine (a : Addr) : Prop := F.He a = none ∨ F.A a
/-- an exception's own dict -/
def Pay (_H H0 : Hp) (c : Nat) (fs : List D) (dd : Option Addr) : Prop :=
  (T.efl c = [] ∧ fs = [] ∧ dd = none) ∨ ∃ d vs, dd = some d ∧ H0 d = some (.xd ((T.efl c).zip vs)) ∧ vs.length = (T.efl c).length ∧ Reps K T H0 vs fs
/-- what a slot that owns nothing says -/
def SlotF (H H0 : Hp) (u : Option (Option V)) : Slot → Prop
  | .un => True
  | .fz d => ∃ v, u = some (some v) ∧ Rep K T H0 v d
  | .exv c fs => ∃ a d, u = some (some (.ref a)) ∧ F.xv a (.ref (T.cls c)) d ∧ Pay K T H H0 c fs d
  | _ => False
def SlotOk (H H0 : Hp) (u : Option (Option V)) (s : Slot) (fp : List Addr) : Prop := match tree s with
  | some t => ∃ v, u = some (some v) ∧ TreeOk K T H H0 v t fp
  | none => fp = [] ∧ SlotF K T F H H0 u s
structure FpOk (σ : L2.St) (H H0 : Hp) (r : Rho) (fp : Nat → List Addr) : Prop where
  slot : ∀ (i : Nat) (s : Slot), r[i]? = some s → SlotOk K T F H H0 σ[i]? s (fp i)
  out : ∀ i : Nat, r[i]? = none → fp i = []
  nd : ∀ i : Nat, (fp i).Nodup
  dj : ∀ (i j : Nat) (a : Addr), a ∈ fp i → a ∈ fp j → i = j
  mine : ∀ (i : Nat) (a : Addr), a ∈ fp i → Mine F a
/-- σ, H are r over the standing part H0 -/
structure Rel (σ : L2.St) (H H0 : Hp) (r : Rho) : Prop where
  len : σ.length = r.length
  sub : Sub H0 H
  base : Sub F.H0e H0
  keep : ∀ b o, F.He b = some o → ¬ F.A b → H b = some o
  there : ∀ b, F.He b ≠ none → H b ≠ none
  new : ∀ b, H0 b ≠ none → F.H0e b = none → F.He b = none ∨ F.A b
  fps : ∃ fp, FpOk K T F σ H H0 r fp
  pins : ∀ p ∈ F.R, σ[p.1]? = some (some (.ref p.2))
/-- what an outcome asks -/
def WG {α : Type} (W : WX) (x : EO α) (σ : L2.St) (H0 : Hp) (k : α → Rho → Prop) : Prop := match x with
  | .ok a r => k a r
  | .exc c fs r => ∀ dd H' H0', Rel K T F σ H' H0' r → Sub H0 H0' → Pay K T H' H0' c fs dd → W (.ref (T.cls c)) dd σ H'
  | .bad => False
/-- the readings -/
def rdE (W : WX) (m : EM D) : TE := fun σ H Q => ∃ r H0, Rel K T F σ H H0 r ∧ WG K T F W (m r) σ H0 fun d r' => ∀ v H' H0', Rel K T F σ H' H0' r' → Sub H0 H0' → Rep K T H0' v d → Q v H'
/-- a value of its own: it stands behind the frame's slots -/
def rdV (W : WX) (m : EM Slot) : TE := fun σ H Q => ∃ r H0, Rel K T F σ H H0 r ∧ WG K T F W (m r) σ H0 fun s r' => ∀ v H' H0', Rel K T F (σ ++ [some v]) H' H0' (r' ++ [s]) → Sub H0 H0' → Q v H'
/-- a new list, of nobody else's -/
def rdL (W : WX) (m : EM (List D)) : TE := fun σ H Q => ∃ r H0, Rel K T F σ H H0 r ∧ WG K T F W (m r) σ H0 fun ds r' => ∀ v H' H0', Rel K T F (σ ++ [some v]) H' H0' (r' ++ [.own ds]) → Sub H0 H0' → Q v H'
def rdT (W : WX) (m : EM Bool) : TT := fun σ H Q => ∃ r H0, Rel K T F σ H H0 r ∧ WG K T F W (m r) σ H0 fun b r' => ∀ H' H0', Rel K T F σ H' H0' r' → Sub H0 H0' → Q b H'
/-- an argument: data, or a list (an object) of the frame's own -/
inductive AD where
  | d (d : D) | ow (i : Nat)
def ArgOk (σ : L2.St) (H0 : Hp) (v : V) : AD → Prop
  | .d d => Rep K T H0 v d
  | .ow i => σ[i]? = some (some v)
inductive ArgsOk (σ : L2.St) (H0 : Hp) : List V → List AD → Prop
  | nil : ArgsOk σ H0 [] []
  | cons {v : V} {a : AD} {vs : List V} {as : List AD} : ArgOk K T σ H0 v a → ArgsOk σ H0 vs as → ArgsOk σ H0 (v :: vs) (a :: as)
def rdA (W : WX) (m : EM (List AD)) : TA := fun σ H Q => ∃ r H0, Rel K T F σ H H0 r ∧ WG K T F W (m r) σ H0 fun as r' => ∀ vs H' H0', Rel K T F σ H' H0' r' → Sub H0 H0' → ArgsOk K T σ H0' vs as → Q vs H'
/-- what a statement's outcome asks -/
def WS (W : WX) (x : SO) (H0 : Hp) (E : Ends) : Prop := match x with
  | .nx r => ∀ σ' H' H0', Rel K T F σ' H' H0' r → Sub H0 H0' → E.nx σ' H'
  | .brk r => ∀ σ' H' H0', Rel K T F σ' H' H0' r → Sub H0 H0' → E.bk σ' H'
  | .cnt r => ∀ σ' H' H0', Rel K T F σ' H' H0' r → Sub H0 H0' → E.ct σ' H'
  | .rt s r => ∀ v σ' H' H0', Rel K T F (σ' ++ [some v]) H' H0' (r ++ [s]) → σ'.length = r.length → (∀ p ∈ F.R, σ'[p.1]? = some (some (.ref p.2))) → Sub H0 H0' → E.rt v H'
  | .exc c fs r => ∀ dd σ' H' H0', Rel K T F σ' H' H0' r → Sub H0 H0' → Pay K T H' H0' c fs dd → W (.ref (T.cls c)) dd σ' H'
  | .bad => False
def rdS (W : WX) (m : SM) : TS := fun E σ H => ∃ r H0, Rel K T F σ H H0 r ∧ WS K T F W (m r) H0 E
end

section
variable {K : PySem.W.Frag} {T : Tab} {F : Fc} {W : WX} {X : Cx}
theorem pe_weak {e : Expr} {t t' : TE} (p : PE X e t) (h : ∀ σ H Q, t' σ H Q → t σ H Q) : PE X e t' := ⟨fun pins s σ H Q I q => p.run pins s σ H Q I (h σ H Q q)⟩
theorem pt_weak {e : Expr} {t t' : TT} (p : PT X e t) (h : ∀ σ H Q, t' σ H Q → t σ H Q) : PT X e t' := ⟨fun pins s σ H Q I q => p.run pins s σ H Q I (h σ H Q q)⟩
theorem pa_weak {e : List Expr} {t t' : TA} (p : PA X e t) (h : ∀ σ H Q, t' σ H Q → t σ H Q) : PA X e t' := ⟨fun pos pins s σ H Q I q => p.run pos pins s σ H Q I (h σ H Q q)⟩
theorem ps_weak {st : Stmt} {t t' : TS} (p : PS X st t) (h : ∀ E σ H, t' E σ H → t E σ H) : PS X st t' := ⟨fun pins s σ H E I q => p.run pins s σ H E I (h E σ H q)⟩
theorem pss_weak {st : List Stmt} {t t' : TS} (p : PSs X st t) (h : ∀ E σ H, t' E σ H → t E σ H) : PSs X st t' := ⟨fun pins s σ H E I q => p.run pins s σ H E I (h E σ H q)⟩
theorem Pay.mono {H H' H0 H0' : Hp} {c : Nat} {fs : List D} {dd : Option Addr} (s : Sub H0 H0') (h : Pay K T H H0 c fs dd) : Pay K T H' H0' c fs dd := by
  rcases h with h | ⟨d, vs, h1, h2, h3, h4⟩
  · exact .inl h
  · exact .inr ⟨d, vs, h1, s _ _ h2, h3, h4.mono s⟩
theorem WG.mono {α : Type} {x : EO α} {σ : L2.St} {H0 H1 : Hp} {k : α → Rho → Prop} (s : Sub H0 H1) (h : WG K T F W x σ H0 k) : WG K T F W x σ H1 k := by
  cases x with
  | ok a r => exact h
  | exc c fs r => exact fun dd H' H0' R s' p => h dd H' H0' R (s.trans s') p
  | bad => exact h
/-- one after the other -/
theorem WG.bind {α β : Type} {x : EO α} {f : α → Rho → EO β} {σ : L2.St} {H0 : Hp} {k : β → Rho → Prop} {k' : α → Rho → Prop} (h : WG K T F W (x.bind f) σ H0 k) (step : ∀ a r, x = .ok a r → WG K T F W (f a r) σ H0 k → k' a r) : WG K T F W x σ H0 k' := by
  cases x with
  | ok a r => exact step a r rfl h
  | exc c fs r => exact h
  | bad => exact h
/-! ### the relation, changed -/
variable {σ σ' : L2.St} {H H0 H' H0' : Hp} {r r' : Rho}
theorem SlotF.mono {u : Option (Option V)} {s : Slot} (m : Sub H0 H0') (h : SlotF K T F H H0 u s) : SlotF K T F H' H0' u s := by
  cases s with
  | un => trivial
  | fz d => obtain ⟨v, e, q⟩ := h; exact ⟨v, e, q.mono m⟩
  | exv c fs => obtain ⟨a, d, e, x, p⟩ := h; exact ⟨a, d, e, x, p.mono m⟩
  | own ds => exact h.elim
  | obj c ds => exact h.elim
  | tr t => exact h.elim
theorem SlotOk.mono {u : Option (Option V)} {s : Slot} {fp : List Addr} (m : Sub H0 H0') (ow : ∀ a ∈ fp, ∀ o, H a = some o → H0 a = none → H' a = some o ∧ H0' a = none) (h : SlotOk K T F H H0 u s fp) : SlotOk K T F H' H0' u s fp := by
  unfold SlotOk at h ⊢
  cases e : tree s with
  | some t => rw [e] at h; obtain ⟨v, e1, q⟩ := h; exact ⟨v, e1, q.mono m ow⟩
  | none => rw [e] at h; exact ⟨h.1, h.2.mono m⟩
theorem SlotOk.there {u : Option (Option V)} {s : Slot} {fp : List Addr} (h : SlotOk K T F H H0 u s fp) : ∀ a ∈ fp, (∃ o, H a = some o) ∧ H0 a = none := by
  unfold SlotOk at h
  cases e : tree s with
  | some t => rw [e] at h; obtain ⟨v, e1, q⟩ := h; exact q.there
  | none => rw [e] at h; intro a m; rw [h.1] at m; cases m
theorem FpOk.there {fp : Nat → List Addr} (f : FpOk K T F σ H H0 r fp) {i : Nat} {a : Addr} (m : a ∈ fp i) : (∃ o, H a = some o) ∧ H0 a = none := by
  cases e : r[i]? with
  | none => rw [f.out i e] at m; cases m
  | some s => exact (f.slot i s e).there a m
/-- another heap -/
theorem Rel.heap (R : Rel K T F σ H H0 r) (s0 : Sub H0 H0') (s1 : Sub H0' H') (hk : ∀ b o, F.He b = some o → ¬ F.A b → H b = some o → H' b = some o) (ht : ∀ b, H b ≠ none → H' b ≠ none) (hn : ∀ b, H0' b ≠ none → H0 b = none → F.He b = none ∨ F.A b)
    (ow : ∀ fp, FpOk K T F σ H H0 r fp → ∀ i, ∀ a ∈ fp i, ∀ o, H a = some o → H0 a = none → H' a = some o ∧ H0' a = none) : Rel K T F σ H' H0' r := by
  obtain ⟨fp, f⟩ := R.fps
  refine ⟨R.len, s1, R.base.trans s0, fun b o e n => hk b o e n (R.keep b o e n), fun b e => ht b (R.there b e), fun b h1 h2 => ?_, ⟨fp, fun i s e => (f.slot i s e).mono s0 (ow fp f i), f.out, f.nd, f.dj, f.mine⟩, R.pins⟩
  cases q : H0 b with
  | none => exact hn b h1 q
  | some u => exact R.new b (by rw [q]; exact fun z => by cases z) h2
/-- slots chosen anew: each says of itself that it owns nothing, or is one of the old ones (none twice) -/
theorem Rel.pick (R : Rel K T F σ H H0 r) (g : Nat → Option Nat) (hl : σ'.length = r'.length) (hs : ∀ (j : Nat) (s : Slot), r'[j]? = some s → (tree s = none ∧ SlotF K T F H H0 σ'[j]? s) ∨ ∃ i, g j = some i ∧ r[i]? = some s ∧ σ'[j]? = σ[i]?)
    (inj : ∀ j k i, g j = some i → g k = some i → j = k) (pins : ∀ p ∈ F.R, σ'[p.1]? = some (some (.ref p.2))) : Rel K T F σ' H H0 r' := by
  obtain ⟨fp, f⟩ := R.fps
  refine ⟨hl, R.sub, R.base, R.keep, R.there, R.new, ⟨fun j => match r'[j]?, g j with
    | some s, some i => if isOwn s = true then fp i else []
    | _, _ => [], fun j s e => ?_, fun j e => by simp only [e], fun j => ?_, fun j k a m1 m2 => ?_, fun j a m => ?_⟩, pins⟩
  · simp only [e]
    by_cases o : isOwn s = true
    · obtain ⟨t, et, _⟩ := own_tree o
      rcases hs j s e with ⟨z, _⟩ | ⟨i, e1, e2, e3⟩
      · rw [et] at z; cases z
      · simp only [e1, if_pos o]
        rw [e3]
        exact f.slot i s e2
    · have o' : isOwn s = false := by cases h : isOwn s with
        | true => exact absurd h o
        | false => rfl
      have z : SlotF K T F H H0 σ'[j]? s := by
        rcases hs j s e with ⟨_, z⟩ | ⟨i, e1, e2, e3⟩
        · exact z
        · have q := f.slot i s e2
          unfold SlotOk at q
          rw [tree_none o'] at q
          rw [e3]
          exact q.2
      unfold SlotOk
      rw [tree_none o']
      refine ⟨?_, z⟩
      cases g j with
      | none => rfl
      | some i => simp [if_neg o]
  · cases r'[j]? with
    | none => exact List.nodup_nil
    | some s =>
      cases g j with
      | none => exact List.nodup_nil
      | some i =>
        try dsimp only
        split
        · exact f.nd i
        · exact List.nodup_nil
  · have get : ∀ j, a ∈ (match r'[j]?, g j with
      | some s, some i => if isOwn s = true then fp i else []
      | _, _ => []) → ∃ i, g j = some i ∧ a ∈ fp i := fun j m => by
      cases e1 : r'[j]? with
      | none => rw [e1] at m; cases m
      | some s =>
        cases e2 : g j with
        | none => rw [e1, e2] at m; cases m
        | some i =>
          rw [e1, e2] at m
          try dsimp only at m
          split at m
          · exact ⟨i, rfl, m⟩
          · cases m
    obtain ⟨i1, g1, n1⟩ := get j m1
    obtain ⟨i2, g2, n2⟩ := get k m2
    have := f.dj i1 i2 a n1 n2
    subst this
    exact inj j k i1 g1 g2
  · cases e1 : r'[j]? with
    | none => simp only [e1] at m; cases m
    | some s =>
      cases e2 : g j with
      | none => simp only [e1, e2] at m; cases m
      | some i =>
        simp only [e1, e2] at m
        split at m
        · exact f.mine i a m
        · cases m
theorem Rel.slotF (R : Rel K T F σ H H0 r) {i : Nat} {s : Slot} (e : r[i]? = some s) (o : isOwn s = false) : SlotF K T F H H0 σ[i]? s := by
  obtain ⟨fp, f⟩ := R.fps
  have q := f.slot i s e
  unfold SlotOk at q
  rw [tree_none o] at q
  exact q.2
theorem Rel.var (R : Rel K T F σ H H0 r) {i : Nat} {d : D} (e : r[i]? = some (.fz d)) : ∃ v, σ[i]? = some (some v) ∧ Rep K T H0 v d := R.slotF e rfl
/-- the root of what a slot owns -/
theorem Rel.ownAt (R : Rel K T F σ H H0 r) {i : Nat} {s : Slot} (e : r[i]? = some s) (o : isOwn s = true) : ∃ a u, σ[i]? = some (some (.ref a)) ∧ H a = some u ∧ H0 a = none := by
  obtain ⟨fp, f⟩ := R.fps
  have q := f.slot i s e
  unfold SlotOk at q
  obtain ⟨t, et, nf⟩ := own_tree o
  rw [et] at q
  obtain ⟨v, e1, q⟩ := q
  generalize fp i = g at q
  cases q with
  | fz r => exact absurd rfl (nf _)
  | lst h n _ => exact ⟨_, _, e1, h, n⟩
  | tup h n _ => exact ⟨_, _, e1, h, n⟩
  | obj h _ n _ => exact ⟨_, _, e1, h, n⟩
theorem Rel.own (R : Rel K T F σ H H0 r) {i : Nat} {ds : List D} (e : r[i]? = some (.own ds)) : ∃ a vs, σ[i]? = some (some (.ref a)) ∧ H a = some (.lst vs) ∧ H0 a = none ∧ Reps K T H0 vs ds := by
  obtain ⟨fp, f⟩ := R.fps
  have q := f.slot i _ e
  obtain ⟨v, e1, q⟩ := (show ∃ v, σ[i]? = some (some v) ∧ TreeOk K T H H0 v (.lst (ds.map .fz)) (fp i) from q)
  generalize fp i = g at q
  cases q with
  | lst h n t => exact ⟨_, _, e1, h, n, t.reps.2⟩
theorem Rel.objAt (R : Rel K T F σ H H0 r) {i c : Nat} {ds : List D} (e : r[i]? = some (.obj c ds)) : ∃ a dx vs, σ[i]? = some (some (.ref a)) ∧ H a = some (.ins (T.cls c) dx ((T.flds c).zip vs)) ∧ vs.length ≤ (T.flds c).length ∧ H0 a = none ∧ Reps K T H0 vs ds := by
  obtain ⟨fp, f⟩ := R.fps
  have q := f.slot i _ e
  obtain ⟨v, e1, q⟩ := (show ∃ v, σ[i]? = some (some v) ∧ TreeOk K T H H0 v (.obj c (ds.map .fz)) (fp i) from q)
  generalize fp i = g at q
  cases q with
  | obj h l n t => exact ⟨_, _, _, e1, h, l, n, t.reps.2⟩
theorem Rel.freshE (R : Rel K T F σ H H0 r) {p : Addr} (hp : H p = none) : F.He p = none := by
  cases e : F.He p with
  | none => rfl
  | some u => exact absurd hp (R.there p (by rw [e]; exact fun z => by cases z))
/-- a new object stands -/
theorem Rel.laid {p : Addr} {o : HO} (R : Rel K T F σ H H0 r) (hp : H p = none) : Rel K T F σ (upd H p o) (upd H0 p o) r := by
  have h0 : H0 p = none := R.sub.gone hp
  have ne : ∀ a u, H a = some u → a ≠ p := fun a u e => ne_of_none e hp
  refine R.heap (Sub.fresh h0) R.sub.both (fun b u _ _ e => by rw [upd_ne (ne _ _ e)]; exact e) (fun b e => ?_) (fun b h1 h2 => ?_) fun fp f i a m u e n => ⟨by rw [upd_ne (ne _ _ e)]; exact e, by rw [upd_ne (ne _ _ e)]; exact n⟩
  · by_cases z : b = p
    · subst z; rw [upd_same]; exact fun z => by cases z
    · rw [upd_ne z]; exact e
  · by_cases z : b = p
    · subst z; exact .inl (R.freshE hp)
    · rw [upd_ne z] at h1; exact absurd h2 h1
/-- a new object beside what stands -/
theorem Rel.made {p : Addr} {o : HO} (R : Rel K T F σ H H0 r) (hp : H p = none) : Rel K T F σ (upd H p o) H0 r := by
  have h0 : H0 p = none := R.sub.gone hp
  have ne : ∀ a u, H a = some u → a ≠ p := fun a u e => ne_of_none e hp
  refine R.heap (Sub.refl _) (R.sub.into h0) (fun b u _ _ e => by rw [upd_ne (ne _ _ e)]; exact e) (fun b e => ?_) (fun b h1 h2 => absurd h2 h1) fun fp f i a m u e n => ⟨by rw [upd_ne (ne _ _ e)]; exact e, n⟩
  by_cases z : b = p
  · subst z; rw [upd_same]; exact fun z => by cases z
  · rw [upd_ne z]; exact e
/-- a value behind the slots: what it is, a tree of its own -/
theorem Rel.push {v : V} {s : Slot} {t : O} {g : List Addr} (R : Rel K T F σ H H0 r) (et : tree s = some t) (ht : TreeOk K T H H0 v t g) (nd : g.Nodup) (hm : ∀ a ∈ g, Mine F a) (dj : ∃ fp, FpOk K T F σ H H0 r fp ∧ ∀ (i : Nat), ∀ a ∈ g, a ∉ fp i) (pn : ∀ p ∈ F.R, p.1 < σ.length) :
    Rel K T F (σ ++ [some v]) H H0 (r ++ [s]) := by
  obtain ⟨fp, f, dj⟩ := dj
  have last : ∀ (i : Nat) (x : Slot), (r ++ [s])[i]? = some x → (i = r.length ∧ x = s) ∨ (i < r.length ∧ r[i]? = some x) := fun i x e => by
    by_cases h : i < r.length
    · rw [List.getElem?_append_left h] at e; exact .inr ⟨h, e⟩
    · rw [List.getElem?_append_right (Nat.le_of_not_lt h)] at e
      have : i - r.length = 0 := by
        by_cases z : i - r.length = 0
        · exact z
        · rw [List.getElem?_eq_none (by simp; omega)] at e; cases e
      rw [this] at e
      cases e
      exact .inl ⟨by omega, rfl⟩
  refine ⟨by simp [R.len], R.sub, R.base, R.keep, R.there, R.new, ⟨fun i => if i = r.length then g else fp i, fun i x e => ?_, fun i e => ?_, fun i => ?_, fun i j a m1 m2 => ?_, fun i a m => ?_⟩, fun p hp => ?_⟩
  · rcases last i x e with ⟨rfl, rfl⟩ | ⟨h, e'⟩
    · rw [if_pos rfl, List.getElem?_append_right (by rw [R.len]; exact Nat.le_refl _), R.len, Nat.sub_self]
      unfold SlotOk
      rw [et]
      exact ⟨v, rfl, ht⟩
    · rw [if_neg (by omega), List.getElem?_append_left (by rw [R.len]; exact h)]
      exact f.slot i x e'
  · have : (r ++ [s]).length ≤ i := List.getElem?_eq_none_iff.mp e
    have l : r.length + 1 ≤ i := by simpa using this
    try dsimp only
    rw [if_neg (by omega)]
    exact f.out i (List.getElem?_eq_none (by omega))
  · try dsimp only
    split
    · exact nd
    · exact f.nd i
  · try dsimp only at m1 m2
    by_cases z1 : i = r.length
    · by_cases z2 : j = r.length
      · rw [z1, z2]
      · rw [if_pos z1] at m1; rw [if_neg z2] at m2
        exact absurd m2 (dj j a m1)
    · by_cases z2 : j = r.length
      · rw [if_neg z1] at m1; rw [if_pos z2] at m2
        exact absurd m1 (dj i a m2)
      · rw [if_neg z1] at m1; rw [if_neg z2] at m2
        exact f.dj i j a m1 m2
  · try dsimp only at m
    split at m
    · exact hm a m
    · exact f.mine i a m
  · rw [List.getElem?_append_left (pn p hp)]; exact R.pins p hp
theorem Rel.pinLt (R : Rel K T F σ H H0 r) : ∀ p ∈ F.R, p.1 < σ.length := fun p hp => (List.getElem?_eq_some_iff.mp (R.pins p hp)).1
/-- data behind the slots -/
theorem Rel.pushFz {v : V} {d : D} (R : Rel K T F σ H H0 r) (h : Rep K T H0 v d) : Rel K T F (σ ++ [some v]) H H0 (r ++ [.fz d]) := by
  refine R.pick (fun j => if j < r.length then some j else none) (by simp [R.len]) (fun j s e => ?_) (fun j k i h1 h2 => ?_) fun p hp => by rw [List.getElem?_append_left (R.pinLt p hp)]; exact R.pins p hp
  · by_cases hj : j < r.length
    · rw [List.getElem?_append_left hj] at e
      exact .inr ⟨j, if_pos hj, e, List.getElem?_append_left (by rw [R.len]; exact hj)⟩
    · rw [List.getElem?_append_right (Nat.le_of_not_lt hj)] at e
      have : j - r.length = 0 := by
        by_cases z : j - r.length = 0
        · exact z
        · rw [List.getElem?_eq_none (by simp; omega)] at e; cases e
      rw [this] at e
      cases e
      refine .inl ⟨rfl, v, ?_, h⟩
      rw [List.getElem?_append_right (by rw [R.len]; omega), R.len, this]
      rfl
  · try dsimp only at h1 h2
    split at h1
    · split at h2
      · cases h1; cases h2; rfl
      · cases h2
    · cases h1
/-- the value behind the slots is forgotten -/
theorem Rel.drop {u : Option V} {s : Slot} (R : Rel K T F (σ ++ [u]) H H0 (r ++ [s])) (hl : σ.length = r.length) (pn : ∀ p ∈ F.R, p.1 < σ.length) : Rel K T F σ H H0 r := by
  refine R.pick (fun j => some j) hl (fun j s e => ?_) (fun j k i h1 h2 => by cases h1; cases h2; rfl) fun p hp => ?_
  · have hj : j < r.length := (List.getElem?_eq_some_iff.mp e).1
    exact .inr ⟨j, rfl, by rw [List.getElem?_append_left hj]; exact e, (List.getElem?_append_left (by rw [hl]; exact hj)).symm⟩
  · have := R.pins p hp
    rw [List.getElem?_append_left (pn p hp)] at this
    exact this
/-- .. stored at i -/
theorem Rel.store {v : V} {s : Slot} {i : Nat} (R : Rel K T F (σ ++ [some v]) H H0 (r ++ [s])) (hl : σ.length = r.length) (pn : ∀ p ∈ F.R, p.1 < σ.length) (hi : ∀ p ∈ F.R, p.1 ≠ i) : Rel K T F (σ.set i (some v)) H H0 (r.set i s) := by
  refine R.pick (fun j => if j = i then some r.length else if j < r.length then some j else none) (by simpa using hl) (fun j x e => ?_) (fun j k n h1 h2 => ?_) fun p hp => ?_
  · have hj : j < r.length := by
      have := (List.getElem?_eq_some_iff.mp e).1
      simpa using this
    by_cases z : j = i
    · subst z
      rw [List.getElem?_set_self hj] at e
      cases e
      refine .inr ⟨r.length, if_pos rfl, ?_, ?_⟩
      · rw [List.getElem?_append_right (Nat.le_refl _), Nat.sub_self]; rfl
      · rw [List.getElem?_set_self (by rw [hl]; exact hj), List.getElem?_append_right (by rw [hl]; exact Nat.le_refl _), hl, Nat.sub_self]; rfl
    · rw [List.getElem?_set_ne (Ne.symm z)] at e
      exact .inr ⟨j, by rw [if_neg z, if_pos hj], by rw [List.getElem?_append_left hj]; exact e, by rw [List.getElem?_set_ne (Ne.symm z), List.getElem?_append_left (by rw [hl]; exact hj)]⟩
  · try dsimp only at h1 h2
    by_cases z1 : j = i
    · by_cases z2 : k = i
      · rw [z1, z2]
      · rw [if_pos z1] at h1
        rw [if_neg z2] at h2
        split at h2
        · cases h1; cases h2; omega
        · cases h2
    · by_cases z2 : k = i
      · rw [if_pos z2] at h2
        rw [if_neg z1] at h1
        split at h1
        · cases h1; cases h2; omega
        · cases h1
      · rw [if_neg z1] at h1
        rw [if_neg z2] at h2
        split at h1
        · split at h2
          · cases h1; cases h2; rfl
          · cases h2
        · cases h1
  · have := R.pins p hp
    rw [List.getElem?_append_left (pn p hp)] at this
    rw [List.getElem?_set_ne (Ne.symm (hi p hp))]
    exact this
/-- .. stands from now on: data -/
theorem Rel.frz {v : V} {s : Slot} {t : O} {d : D} (R : Rel K T F (σ ++ [some v]) H H0 (r ++ [s])) (hl : σ.length = r.length) (pn : ∀ p ∈ F.R, p.1 < σ.length) (et : tree s = some t) (ed : O.data (fun c => (T.flds c).length) t = some d) :
    ∃ H0', Sub H0 H0' ∧ Rel K T F σ H H0' r ∧ Rep K T H0' v d := by
  obtain ⟨fp, f⟩ := R.fps
  have ql := f.slot r.length s (by rw [List.getElem?_append_right (Nat.le_refl _), Nat.sub_self]; rfl)
  unfold SlotOk at ql
  rw [et] at ql
  obtain ⟨v', e1, q⟩ := ql
  rw [List.getElem?_append_right (by rw [hl]; exact Nat.le_refl _), hl, Nat.sub_self] at e1
  cases e1
  have dec : ∀ b, Decidable (b ∈ fp r.length) := fun b => Classical.propDecidable _
  have key : ∃ H0' : Hp, (∀ b ∈ fp r.length, H0' b = H b) ∧ ∀ b, b ∉ fp r.length → H0' b = H0 b := ⟨fun b => @ite _ (b ∈ fp r.length) (dec b) (H b) (H0 b), fun b m => @if_pos _ (dec b) m _ _ _, fun b m => @if_neg _ (dec b) m _ _ _⟩
  obtain ⟨H0', k1, k2⟩ := key
  have s0 : Sub H0 H0' := fun b o e => by
    by_cases m : b ∈ fp r.length
    · rw [(f.there m).2] at e; cases e
    · rw [k2 b m]; exact e
  refine ⟨H0', s0, ?_, q.rep s0 k1 ed⟩
  have Rd := R.drop hl pn
  have s1 : Sub H0' H := fun b o e => by
    by_cases m : b ∈ fp r.length
    · rw [k1 b m] at e; exact e
    · rw [k2 b m] at e; exact R.sub b o e
  refine ⟨hl, s1, R.base.trans s0, R.keep, R.there, fun b h1 h2 => ?_, ⟨fun i => if i < r.length then fp i else [], fun i x e => ?_, fun i e => ?_, fun i => ?_, fun i j a m1 m2 => ?_, fun i a m => ?_⟩, Rd.pins⟩
  · by_cases m : b ∈ fp r.length
    · exact f.mine _ b m
    · rw [k2 b m] at h1; exact R.new b h1 h2
  · have hi : i < r.length := (List.getElem?_eq_some_iff.mp e).1
    try dsimp only
    rw [if_pos hi]
    have z := f.slot i x (by rw [List.getElem?_append_left hi]; exact e)
    rw [List.getElem?_append_left (by rw [hl]; exact hi)] at z
    refine z.mono s0 fun a m o e n => ⟨e, ?_⟩
    have na : a ∉ fp r.length := fun m2 => by have := f.dj i r.length a m m2; omega
    rw [k2 a na]; exact n
  · have : r.length ≤ i := List.getElem?_eq_none_iff.mp e
    try dsimp only
    rw [if_neg (by omega)]
  · try dsimp only
    split
    · exact f.nd i
    · exact List.nodup_nil
  · try dsimp only at m1 m2
    split at m1
    · split at m2
      · exact f.dj i j a m1 m2
      · cases m2
    · cases m1
  · try dsimp only at m
    split at m
    · exact f.mine i a m
    · cases m
/-- the value behind the slots is hidden while something else runs -/
theorem Rel.hide {u : Option V} {s : Slot} (R : Rel K T F (σ ++ [u]) H H0 (r ++ [s])) (hl : σ.length = r.length) : ∃ Fh : Fc, Fh.xv = F.xv ∧ Fh.R = [] ∧ Rel K T Fh σ H H0 r ∧
    (∀ σ2 H2 H02 r2, Rel K T Fh σ2 H2 H02 r2 → (∀ p ∈ F.R, (σ2 ++ [u])[p.1]? = some (some (.ref p.2))) → Rel K T F (σ2 ++ [u]) H2 H02 (r2 ++ [s]) ∧ Sub H0 H02) ∧
    ∃ g, SlotOk K T F H H0 (some u) s g ∧ ∀ σ2 H2 H02 r2, Rel K T Fh σ2 H2 H02 r2 → ∀ b ∈ g, H2 b = H b := by
  obtain ⟨fp, f⟩ := R.fps
  have at_ : ∀ (i : Nat) (x : Slot), r[i]? = some x → i < r.length ∧ (r ++ [s])[i]? = some x ∧ (σ ++ [u])[i]? = σ[i]? := fun i x e => by
    have hi : i < r.length := (List.getElem?_eq_some_iff.mp e).1
    exact ⟨hi, by rw [List.getElem?_append_left hi]; exact e, List.getElem?_append_left (by rw [hl]; exact hi)⟩
  have ql := f.slot r.length s (by rw [List.getElem?_append_right (Nat.le_refl _), Nat.sub_self]; rfl)
  have ul : (σ ++ [u])[r.length]? = some u := by rw [List.getElem?_append_right (by rw [hl]; exact Nat.le_refl _), hl, Nat.sub_self]; rfl
  rw [ul] at ql
  refine ⟨⟨H, H0, fun b => ∃ i, i < r.length ∧ b ∈ fp i, [], F.xv⟩, rfl, rfl, ⟨hl, R.sub, Sub.refl _, fun b o e _ => e, fun b e => e, fun b h1 h2 => absurd h2 h1, ⟨fun i => if i < r.length then fp i else [], fun i x e => ?_, fun i e => ?_, fun i => ?_, fun i j a m1 m2 => ?_, fun i a m => ?_⟩, fun p hp => by cases hp⟩, ?_, fp r.length, ql, ?_⟩
  · obtain ⟨hi, e1, e2⟩ := at_ i x e
    try dsimp only
    rw [if_pos hi, ← e2]
    have z := f.slot i x e1
    unfold SlotOk at z ⊢
    cases q : tree x with
    | some t => rw [q] at z; exact z
    | none =>
      rw [q] at z
      refine ⟨z.1, ?_⟩
      have z2 := z.2
      cases x with
      | un => trivial
      | fz d => exact z2
      | exv c fs => exact z2
      | own ds => exact z2.elim
      | obj c ds => exact z2.elim
      | tr t => exact z2.elim
  · have : r.length ≤ i := List.getElem?_eq_none_iff.mp e
    try dsimp only
    rw [if_neg (by omega)]
  · try dsimp only
    split
    · exact f.nd i
    · exact List.nodup_nil
  · try dsimp only at m1 m2
    split at m1
    · split at m2
      · exact f.dj i j a m1 m2
      · cases m2
    · cases m1
  · try dsimp only at m
    split at m
    · rename_i hi; exact .inr ⟨i, hi, m⟩
    · cases m
  · intro σ2 H2 H02 r2 R2 pins
    obtain ⟨fp2, f2⟩ := R2.fps
    have mine2 : ∀ a, Mine (⟨H, H0, fun b => ∃ i, i < r.length ∧ b ∈ fp i, [], F.xv⟩ : Fc) a → Mine F a ∧ a ∉ fp r.length := fun a m => by
      rcases m with m | ⟨i, hi, m⟩
      · exact ⟨.inl (R.freshE m), fun z => by obtain ⟨⟨o, e⟩, _⟩ := f.there z; rw [show H a = none from m] at e; cases e⟩
      · exact ⟨f.mine i a m, fun z => by have := f.dj i r.length a m z; omega⟩
    have notA : ∀ b, b ∈ fp r.length → ¬ ∃ i, i < r.length ∧ b ∈ fp i := fun b m ⟨i, hi, m2⟩ => by have := f.dj i r.length b m2 m; omega
    have ql2 : SlotOk K T F H2 H02 (some u) s (fp r.length) := ql.mono R2.base fun a m o e n => ⟨R2.keep a o e (notA a m), by
      cases q : H02 a with
      | none => rfl
      | some w =>
        rcases R2.new a (by rw [q]; exact fun z => by cases z) n with z | z
        · have z : H a = none := z
          rw [show H a = some o from e] at z; cases z
        · exact absurd z (notA a m)⟩
    have last : ∀ (i : Nat) (x : Slot), (r2 ++ [s])[i]? = some x → (i = r2.length ∧ x = s) ∨ (i < r2.length ∧ r2[i]? = some x) := fun i x e => by
      by_cases h : i < r2.length
      · rw [List.getElem?_append_left h] at e; exact .inr ⟨h, e⟩
      · rw [List.getElem?_append_right (Nat.le_of_not_lt h)] at e
        have : i - r2.length = 0 := by
          by_cases z : i - r2.length = 0
          · exact z
          · rw [List.getElem?_eq_none (by simp; omega)] at e; cases e
        rw [this] at e
        cases e
        exact .inl ⟨by omega, rfl⟩
    refine ⟨⟨by simp [R2.len], R2.sub, R.base.trans R2.base, fun b o e n => ?_, fun b e => R2.there b (R.there b e), fun b h1 h2 => ?_, ⟨fun i => if i = r2.length then fp r.length else fp2 i, fun i x e => ?_, fun i e => ?_, fun i => ?_, fun i j a m1 m2 => ?_, fun i a m => ?_⟩, pins⟩, R2.base⟩
    · refine R2.keep b o (R.keep b o e n) fun z => ?_
      obtain ⟨i, hi, m⟩ := z
      rcases f.mine i b m with q | q
      · rw [q] at e; cases e
      · exact n q
    · cases q : H0 b with
      | some w => exact R.new b (by rw [q]; exact fun z => by cases z) h2
      | none => exact (mine2 b (R2.new b h1 q)).1
    · rcases last i x e with ⟨rfl, rfl⟩ | ⟨h, e'⟩
      · try dsimp only
        rw [if_pos rfl, List.getElem?_append_right (by rw [R2.len]; exact Nat.le_refl _), R2.len, Nat.sub_self]
        exact ql2
      · try dsimp only
        rw [if_neg (by omega), List.getElem?_append_left (by rw [R2.len]; exact h)]
        have z := f2.slot i x e'
        unfold SlotOk at z ⊢
        cases q : tree x with
        | some t => rw [q] at z; exact z
        | none =>
          rw [q] at z
          refine ⟨z.1, ?_⟩
          have z2 := z.2
          cases x with
          | un => trivial
          | fz d => exact z2
          | exv c fs => exact z2
          | own ds => exact z2.elim
          | obj c ds => exact z2.elim
          | tr t => exact z2.elim
    · have : (r2 ++ [s]).length ≤ i := List.getElem?_eq_none_iff.mp e
      have l : r2.length + 1 ≤ i := by simpa using this
      try dsimp only
      rw [if_neg (by omega)]
      exact f2.out i (List.getElem?_eq_none (by omega))
    · try dsimp only
      split
      · exact f.nd _
      · exact f2.nd i
    · try dsimp only at m1 m2
      by_cases z1 : i = r2.length
      · by_cases z2 : j = r2.length
        · rw [z1, z2]
        · rw [if_pos z1] at m1; rw [if_neg z2] at m2
          exact absurd m1 (mine2 a (f2.mine j a m2)).2
      · by_cases z2 : j = r2.length
        · rw [if_neg z1] at m1; rw [if_pos z2] at m2
          exact absurd m2 (mine2 a (f2.mine i a m1)).2
        · rw [if_neg z1] at m1; rw [if_neg z2] at m2
          exact f2.dj i j a m1 m2
    · try dsimp only at m
      split at m
      · exact f.mine _ a m
      · exact (mine2 a (f2.mine i a m)).1
  · intro σ2 H2 H02 r2 R2 b m
    obtain ⟨⟨o, e⟩, _⟩ := f.there m
    rw [e]
    exact R2.keep b o e fun ⟨i, hi, m2⟩ => by have := f.dj i r.length b m2 m; omega
/-- an object of the frame's own is written -/
theorem Rel.write (R : Rel K T F σ H H0 r) {fp fp' : Nat → List Addr} (f : FpOk K T F σ H H0 r fp) {k : Nat} {a : Addr} (ha : a ∈ fp k) {o : HO} (hl : σ'.length = r'.length) (f' : FpOk K T F σ' (upd H a o) H0 r' fp') (pins : ∀ p ∈ F.R, σ'[p.1]? = some (some (.ref p.2))) :
    Rel K T F σ' (upd H a o) H0 r' := by
  refine ⟨hl, R.sub.into (f.there ha).2, R.base, fun b u e n => ?_, fun b e => ?_, R.new, ⟨fp', f'⟩, pins⟩
  · have ne : b ≠ a := fun z => by
      subst z
      rcases f.mine k b ha with q | q
      · rw [q] at e; cases e
      · exact n q
    rw [upd_ne ne]; exact R.keep b u e n
  · by_cases z : b = a
    · subst z; rw [upd_same]; exact fun z => by cases z
    · rw [upd_ne z]; exact R.there b e
/-- .. of one slot alone -/
theorem Rel.writeAt (R : Rel K T F σ H H0 r) {fp : Nat → List Addr} (f : FpOk K T F σ H H0 r fp) {k : Nat} {a : Addr} (ha : a ∈ fp k) {o : HO} {s : Slot} {g : List Addr} (hs : SlotOk K T F (upd H a o) H0 σ[k]? s g) (nd : g.Nodup) (sub : ∀ b ∈ g, b ∈ fp k) : Rel K T F σ (upd H a o) H0 (r.set k s) := by
  have hk : k < r.length := by
    by_cases z : k < r.length
    · exact z
    · rw [f.out k (List.getElem?_eq_none (Nat.le_of_not_lt z))] at ha; cases ha
  refine R.write f ha (fp' := fun i => if i = k then g else fp i) (by simpa using R.len) ⟨fun i x e => ?_, fun i e => ?_, fun i => ?_, fun i j b m1 m2 => ?_, fun i b m => ?_⟩ R.pins
  · by_cases z : i = k
    · subst z
      rw [List.getElem?_set_self hk] at e
      cases e
      simp only [if_true]
      exact hs
    · rw [List.getElem?_set_ne (Ne.symm z)] at e
      simp only [if_neg z]
      exact (f.slot i x e).mono (Sub.refl _) fun b m u e n => ⟨by rw [upd_ne fun y => z (f.dj i k a (by rw [← y]; exact m) ha)]; exact e, n⟩
  · have l : (r.set k s).length ≤ i := List.getElem?_eq_none_iff.mp e
    have l : r.length ≤ i := by simpa using l
    simp only [if_neg (show i ≠ k by omega)]
    exact f.out i (List.getElem?_eq_none l)
  · by_cases z : i = k
    · simp only [if_pos z]; exact nd
    · simp only [if_neg z]; exact f.nd i
  · have up : ∀ i, b ∈ (if i = k then g else fp i) → b ∈ fp i := fun i m => by
      by_cases z : i = k
      · rw [if_pos z] at m; rw [z]; exact sub b m
      · rw [if_neg z] at m; exact m
    exact f.dj i j b (up i m1) (up j m2)
  · have up : b ∈ fp i := by
      by_cases z : i = k
      · simp only [if_pos z] at m; rw [z]; exact sub b m
      · simp only [if_neg z] at m; exact m
    exact f.mine i b up
/-- a list of the frame's own, changed -/
theorem Rel.change (R : Rel K T F σ H H0 r) {k : Nat} {a : Addr} {ds ds' : List D} {vs' : List V} (e : r[k]? = some (.own ds)) (ek : σ[k]? = some (some (.ref a))) (h : Reps K T H0 vs' ds') : Rel K T F σ (upd H a (.lst vs')) H0 (r.set k (.own ds')) := by
  obtain ⟨fp, f⟩ := R.fps
  have q := f.slot k _ e
  obtain ⟨v, e1, q⟩ := (show ∃ v, σ[k]? = some (some v) ∧ TreeOk K T H H0 v (.lst (ds.map .fz)) (fp k) from q)
  have z := ek.symm.trans e1
  cases z
  have ha : a ∈ fp k := by
    generalize fp k = g at q
    cases q with
    | lst _ _ _ => exact List.mem_cons_self
  have n : H0 a = none := (f.there ha).2
  refine R.writeAt f ha (g := [a]) ⟨.ref a, ek, .lst upd_same n (TreesOk.ofReps h)⟩ (by simp) fun b m => ?_
  cases List.mem_singleton.mp m
  exact ha
/-- a slot's value behind the slots -/
theorem Rel.pull {i : Nat} {s : Slot} {u : Option V} (R : Rel K T F σ H H0 r) (e : r[i]? = some s) (eu : σ[i]? = some u) : Rel K T F (σ ++ [u]) H H0 (r.set i .un ++ [s]) := by
  have hi : i < r.length := (List.getElem?_eq_some_iff.mp e).1
  refine R.pick (fun j => if j < r.length then (if j = i then none else some j) else if j = r.length then some i else none) (by simp [R.len]) (fun j x ex => ?_) (fun j k n h1 h2 => ?_) fun p hp => by rw [List.getElem?_append_left (R.pinLt p hp)]; exact R.pins p hp
  · by_cases hj : j < r.length
    · rw [List.getElem?_append_left (by simpa using hj)] at ex
      rw [List.getElem?_append_left (by rw [R.len]; exact hj)]
      by_cases z : j = i
      · subst z
        rw [List.getElem?_set_self hj] at ex
        cases ex
        exact .inl ⟨rfl, trivial⟩
      · rw [List.getElem?_set_ne (Ne.symm z)] at ex
        exact .inr ⟨j, by rw [if_pos hj, if_neg z], ex, rfl⟩
    · have hj' := Nat.le_of_not_lt hj
      rw [List.getElem?_append_right (by simpa using hj'), List.length_set] at ex
      have z : j - r.length = 0 := by
        by_cases z : j - r.length = 0
        · exact z
        · rw [List.getElem?_eq_none (by simp; omega)] at ex; cases ex
      rw [z] at ex
      cases ex
      have zj : j = r.length := by omega
      refine .inr ⟨i, by rw [if_neg hj, if_pos zj], e, ?_⟩
      rw [List.getElem?_append_right (by rw [R.len]; exact hj'), R.len, z, eu]
      rfl
  · try dsimp only at h1 h2
    by_cases a1 : j < r.length
    · rw [if_pos a1] at h1
      split at h1
      · cases h1
      · rename_i ne
        cases h1
        by_cases a2 : k < r.length
        · rw [if_pos a2] at h2
          split at h2
          · cases h2
          · cases h2; rfl
        · rw [if_neg a2] at h2
          split at h2
          · cases h2; exact absurd rfl ne
          · cases h2
    · rw [if_neg a1] at h1
      split at h1
      · cases h1
        by_cases a2 : k < r.length
        · rw [if_pos a2] at h2
          split at h2
          · cases h2
          · rename_i ne; cases h2; exact absurd rfl ne
        · rw [if_neg a2] at h2
          split at h2
          · omega
          · cases h2
      · cases h1
/-- .. and back where it stands -/
theorem Rel.back {i : Nat} {s : Slot} {u : Option V} (R : Rel K T F (σ ++ [u]) H H0 (r ++ [s])) (hl : σ.length = r.length) (eu : σ[i]? = some u) (pn : ∀ p ∈ F.R, σ[p.1]? = some (some (.ref p.2))) : Rel K T F σ H H0 (r.set i s) := by
  refine R.pick (fun j => if j = i then some r.length else if j < r.length then some j else none) (by simpa using hl) (fun j x e => ?_) (fun j k n h1 h2 => ?_) pn
  · have hj : j < r.length := by
      have := (List.getElem?_eq_some_iff.mp e).1
      simpa using this
    by_cases z : j = i
    · subst z
      rw [List.getElem?_set_self hj] at e
      cases e
      refine .inr ⟨r.length, if_pos rfl, ?_, ?_⟩
      · rw [List.getElem?_append_right (Nat.le_refl _), Nat.sub_self]; rfl
      · rw [eu, List.getElem?_append_right (by rw [hl]; exact Nat.le_refl _), hl, Nat.sub_self]; rfl
    · rw [List.getElem?_set_ne (Ne.symm z)] at e
      exact .inr ⟨j, by rw [if_neg z, if_pos hj], by rw [List.getElem?_append_left hj]; exact e, by rw [List.getElem?_append_left (by rw [hl]; exact hj)]⟩
  · try dsimp only at h1 h2
    by_cases z1 : j = i
    · by_cases z2 : k = i
      · rw [z1, z2]
      · rw [if_pos z1] at h1
        rw [if_neg z2] at h2
        split at h2
        · cases h1; cases h2; omega
        · cases h2
    · by_cases z2 : k = i
      · rw [if_pos z2] at h2
        rw [if_neg z1] at h1
        split at h1
        · cases h1; cases h2; omega
        · cases h1
      · rw [if_neg z1] at h1
        rw [if_neg z2] at h2
        split at h1
        · split at h2
          · cases h1; cases h2; rfl
          · cases h2
        · cases h1
/-- a slot's tree stands from now on -/
theorem Rel.frzAt {i : Nat} {s : Slot} {t : O} {d : D} (R : Rel K T F σ H H0 r) (hi : ∀ p ∈ F.R, p.1 ≠ i) (e : r[i]? = some s) (et : tree s = some t) (ed : O.data (fun c => (T.flds c).length) t = some d) :
    ∃ v H0', σ[i]? = some (some v) ∧ Rel K T F σ H H0' (r.set i (.fz d)) ∧ Sub H0 H0' ∧ Rep K T H0' v d := by
  obtain ⟨a, u, q1, _⟩ := R.ownAt e (tree_own et)
  have R1 := R.pull e q1
  have hl : σ.length = (r.set i .un).length := by simpa using R.len
  obtain ⟨H0', s0, R2, h⟩ := R1.frz hl R.pinLt et ed
  have R3 := (R2.pushFz h).back hl q1 R.pins
  rw [List.set_set] at R3
  exact ⟨_, H0', q1, R3, s0, h⟩
end
end Ml
set_option Elab.async false
set_option linter.all false
set_option maxRecDepth 100000
set_option maxHeartbeats 4000000
/-! Ml2: rules for expressions. -/
namespace Ml
open PySem L2
section
variable {K : PySem.W.Frag} {T : Tab} {F : Fc}

/-! ### new objects -/
/-- data that came out: nothing was made, or one new object that stands -/
def NewOk (K : PySem.W.Frag) (T : Tab) (H H0 : Hp) (z : D) (v : V) (H' H0' : Hp) : Prop :=
  (H' = H ∧ H0' = H0 ∧ Rep K T H0 v z) ∨ ∃ p o, H p = none ∧ v = .ref p ∧ H' = upd H p o ∧ H0' = upd H0 p o ∧ Rep K T (upd H0 p o) (.ref p) z
theorem Rel.newOk {σ : L2.St} {H H0 H' H0' : Hp} {r : Rho} {z : D} {v : V} (R : Rel K T F σ H H0 r) (n : NewOk K T H H0 z v H' H0') : Rel K T F σ H' H0' r ∧ Sub H0 H0' ∧ Rep K T H0' v z := by
  rcases n with ⟨rfl, rfl, h⟩ | ⟨p, o, hp, rfl, rfl, rfl, h⟩
  · exact ⟨R, Sub.refl _, h⟩
  · exact ⟨R.laid hp, Sub.fresh (R.sub.gone hp), h⟩
theorem NewOk.sc {H H0 : Hp} {z : D} {v : V} (h : Rep K T H0 v z) : NewOk K T H H0 z v H H0 := .inl ⟨rfl, rfl, h⟩
theorem NewOk.mk {H H0 : Hp} {z : D} {p : Addr} {o : HO} (hp : H p = none) (h : Rep K T (upd H0 p o) (.ref p) z) : NewOk K T H H0 z (.ref p) (upd H p o) (upd H0 p o) := .inr ⟨p, o, hp, rfl, rfl, rfl, h⟩
theorem NewOk.tup {H H0 : Hp} {p : Addr} {vs : List V} {ds : List D} (sub : Sub H0 H) (hp : H p = none) (h : Reps K T H0 vs ds) : NewOk K T H H0 (.tup ds) (.ref p) (upd H p (.tup vs)) (upd H0 p (.tup vs)) :=
  .mk hp (.tup upd_same (h.mono (Sub.fresh (sub.gone hp))))
theorem NewOk.lst {H H0 : Hp} {p : Addr} {vs : List V} {ds : List D} (sub : Sub H0 H) (hp : H p = none) (h : Reps K T H0 vs ds) : NewOk K T H H0 (.lst ds) (.ref p) (upd H p (.lst vs)) (upd H0 p (.lst vs)) :=
  .mk hp (.lst upd_same (h.mono (Sub.fresh (sub.gone hp))))

/-! ### operands: data, or a list (an object) of the frame's own, as it stands when it is used -/
def RepE (K : PySem.W.Frag) (T : Tab) (H H0 : Hp) (v : V) (d : D) : Prop :=
  Rep K T H0 v d ∨ (∃ a vs ds, v = .ref a ∧ d = .lst ds ∧ H a = some (.lst vs) ∧ Reps K T H0 vs ds) ∨
    ∃ a dx c vs ds, v = .ref a ∧ d = .ins c ds ∧ H a = some (.ins (T.cls c) dx ((T.flds c).zip vs)) ∧ vs.length ≤ (T.flds c).length ∧ Reps K T H0 vs ds
inductive RepEs (K : PySem.W.Frag) (T : Tab) (H H0 : Hp) : List V → List D → Prop
  | nil : RepEs K T H H0 [] []
  | cons {v : V} {d : D} {vs : List V} {ds : List D} : RepE K T H H0 v d → RepEs K T H H0 vs ds → RepEs K T H H0 (v :: vs) (d :: ds)
def res (r : Rho) : AD → Option D
  | .d d => some d
  | .ow i => match r[i]? with
    | some (.own ds) => some (.lst ds)
    | some (.obj c ds) => some (.ins c ds)
    | _ => none
def ress (r : Rho) : List AD → Option (List D)
  | [] => some []
  | a :: as => match res r a, ress r as with
    | some d, some ds => some (d :: ds)
    | _, _ => none
theorem Rel.res {σ : L2.St} {H H0 : Hp} {r : Rho} (R : Rel K T F σ H H0 r) {v : V} {a : AD} {d : D} (h : ArgOk K T σ H0 v a) (e : res r a = some d) : RepE K T H H0 v d := by
  cases a with
  | d d' => cases e; exact .inl h
  | ow i =>
    have e : (match r[i]? with | some (.own ds) => some (D.lst ds) | some (.obj c ds) => some (.ins c ds) | _ => none) = some d := e
    split at e
    · rename_i ds q
      cases e
      obtain ⟨a, vs, e1, e2, e3, e4⟩ := R.own q
      have e5 := e1.symm.trans h
      cases e5
      exact .inr (.inl ⟨a, vs, ds, rfl, rfl, e2, e4⟩)
    · rename_i c ds q
      cases e
      obtain ⟨a, dx, vs, e1, e2, hl, e3, e4⟩ := R.objAt q
      have e5 := e1.symm.trans h
      cases e5
      exact .inr (.inr ⟨a, dx, c, vs, ds, rfl, rfl, e2, hl, e4⟩)
    · cases e
theorem Rel.ress {σ : L2.St} {H H0 : Hp} {r : Rho} (R : Rel K T F σ H H0 r) : ∀ {vs : List V} {as : List AD} {ds : List D}, ArgsOk K T σ H0 vs as → ress r as = some ds → RepEs K T H H0 vs ds
  | _, _, _, .nil, e => by cases e; exact .nil
  | _, _, _, .cons (a := a) (as := as) h t, e => by
    unfold Ml.ress at e
    cases h1 : Ml.res r a with
    | none => rw [h1] at e; cases e
    | some d =>
      cases h2 : Ml.ress r as with
      | none => rw [h1, h2] at e; cases e
      | some ds =>
        rw [h1, h2] at e
        cases e
        exact .cons (R.res h h1) (R.ress t h2)
theorem ArgOk.mono {σ : L2.St} {H0 H0' : Hp} (s : Sub H0 H0') {v : V} {a : AD} (h : ArgOk K T σ H0 v a) : ArgOk K T σ H0' v a := by
  cases a with
  | d d => exact Rep.mono s h
  | ow i => exact h
theorem ArgsOk.mono {σ : L2.St} {H0 H0' : Hp} (s : Sub H0 H0') : ∀ {vs : List V} {as : List AD}, ArgsOk K T σ H0 vs as → ArgsOk K T σ H0' vs as
  | _, _, .nil => .nil
  | _, _, .cons h t => .cons (h.mono s) (t.mono s)
def rdP (K : PySem.W.Frag) (T : Tab) (F : Fc) (W : WX) (m : EM AD) : TE := fun σ H Q => ∃ r H0, Rel K T F σ H H0 r ∧ WG K T F W (m r) σ H0 fun a r' => ∀ v H' H0', Rel K T F σ H' H0' r' → Sub H0 H0' → ArgOk K T σ H0' v a → Q v H'

/-! ### operations on values -/
def OpM1 (K : PySem.W.Frag) (T : Tab) (rr : V → Hp → VK → Prop) (f : D → Option D) : Prop := ∀ x dx z H H0, Sub H0 H → RepE K T H H0 x dx → f dx = some z → ∀ Q : VK, (∀ v H' H0', NewOk K T H H0 z v H' H0' → Q v H') → rr x H Q
def OpM2 (K : PySem.W.Frag) (T : Tab) (rr : R2) (f : D → D → Option D) : Prop := ∀ x y dx dy z H H0, Sub H0 H → RepE K T H H0 x dx → RepE K T H H0 y dy → f dx dy = some z → ∀ Q : VK, (∀ v H' H0', NewOk K T H H0 z v H' H0' → Q v H') → rr x y H Q
/-- a call on values -/
def OpMs (K : PySem.W.Frag) (T : Tab) (rr : List V → Hp → VK → Prop) (f : List D → Option D) : Prop := ∀ xs ds z H H0, Sub H0 H → RepEs K T H H0 xs ds → f ds = some z → ∀ Q : VK, (∀ v H' H0', NewOk K T H H0 z v H' H0' → Q v H') → rr xs H Q
/-- the same with a new list that is the frame's own -/
def NewL (K : PySem.W.Frag) (T : Tab) (H H0 : Hp) (ds : List D) (v : V) (H' : Hp) : Prop := ∃ p vs, H p = none ∧ v = .ref p ∧ H' = upd H p (.lst vs) ∧ Reps K T H0 vs ds
def OpL2 (K : PySem.W.Frag) (T : Tab) (rr : R2) (f : D → D → Option (List D)) : Prop := ∀ x y dx dy z H H0, Sub H0 H → RepE K T H H0 x dx → RepE K T H H0 y dy → f dx dy = some z → ∀ Q : VK, (∀ v H', NewL K T H H0 z v H' → Q v H') → rr x y H Q
def OpLs (K : PySem.W.Frag) (T : Tab) (rr : List V → Hp → VK → Prop) (f : List D → Option (List D)) : Prop := ∀ xs ds z H H0, Sub H0 H → RepEs K T H H0 xs ds → f ds = some z → ∀ Q : VK, (∀ v H', NewL K T H H0 z v H' → Q v H') → rr xs H Q

/-- an outcome that may be missing -/
def EO.opt {α : Type} (o : Option α) (r : Rho) : EO α := match o with
  | some z => .ok z r
  | none => .bad
def e_c (d : D) : EM D := fun r => .ok d r
def e_var (i : Nat) : EM D := fun r => match r[i]? with
  | some (.fz d) => .ok d r
  | _ => .bad
def p_d (m : EM D) : EM AD := fun r => (m r).bind fun d r => .ok (.d d) r
def p_ow (i : Nat) : EM AD := fun r => match r[i]? with
  | some s => if isOwn s = true then .ok (.ow i) r else .bad
  | none => .bad
def o1 {α : Type} (f : D → Option α) (a : EM AD) : EM α := fun r => (a r).bind fun x r => match res r x with
  | some dx => EO.opt (f dx) r
  | none => .bad
def o2 {α : Type} (f : D → D → Option α) (a b : EM AD) : EM α := fun r => (a r).bind fun x r => (b r).bind fun y r => match res r x, res r y with
  | some dx, some dy => EO.opt (f dx dy) r
  | _, _ => .bad
def os {α : Type} (f : List D → Option α) (m : EM (List AD)) : EM α := fun r => (m r).bind fun xs r => match ress r xs with
  | some ds => EO.opt (f ds) r
  | none => .bad
def a_nil : EM (List AD) := fun r => .ok [] r
def a_cons (a : EM AD) (m : EM (List AD)) : EM (List AD) := fun r => (a r).bind fun x r => (m r).bind fun xs r => .ok (x :: xs) r
/-- a new list as data -/
def e_lst (m : EM (List D)) : EM D := fun r => (m r).bind fun ds r => .ok (.lst ds) r

variable {X : Cx} {W : WX} {a b c : Expr} {ma mb mc : EM AD} {m : EM D} {ml : EM (List D)} {pos : Pos}
theorem WG.opt {α : Type} {o : Option α} {r : Rho} {σ : L2.St} {H0 : Hp} {k : α → Rho → Prop} (h : WG K T F W (EO.opt o r) σ H0 k) : ∃ z, o = some z ∧ k z r := by
  cases o with
  | none => exact h.elim
  | some z => exact ⟨z, rfl, h⟩
theorem me_c {e : Expr} {v : V} {d : D} (p : PE X e (tC v)) (h : ∀ H, Rep K T H v d) : PE X e (rdE K T F W (e_c d)) := pe_weak p fun σ H Q ⟨r, H0, R, w⟩ => w v H H0 R (Sub.refl _) (h _)
theorem me_int {i : Int} {j : Nat} : PE X (.Constant (.int i) j pos) (rdE K T F W (e_c (.int i))) := me_c pe_int fun _ => .int _
theorem me_bl {i : Bool} {j : Nat} : PE X (.Constant (.bool i) j pos) (rdE K T F W (e_c (.bl i))) := me_c pe_bl fun _ => .bl _
theorem me_non {j : Nat} : PE X (.Constant .none j pos) (rdE K T F W (e_c .non)) := me_c pe_non fun _ => .non
theorem me_str {x : Str} {j : Nat} : PE X (.Constant (.str x) j pos) (rdE K T F W (e_c (.str x))) := me_c pe_str fun _ => .str _
theorem me_pv {e : Expr} (i : Nat) (p : PE X e (tVar i)) : PE X e (rdE K T F W (e_var i)) := pe_weak p fun σ H Q ⟨r, H0, R, w⟩ => by
  unfold e_var at w
  split at w
  · rename_i d e
    obtain ⟨v, e1, h⟩ := R.var e
    exact ⟨v, e1, w v H H0 R (Sub.refl _) h⟩
  · exact w.elim
/-- data as an operand -/
theorem mp_d {e : Expr} (p : PE X e (rdE K T F W m)) : PE X e (rdP K T F W (p_d m)) := pe_weak p fun σ H Q ⟨r, H0, R, w⟩ =>
  ⟨r, H0, R, WG.bind w fun d r1 _ w1 v H' H0' R' s' hv => w1 v H' H0' R' s' hv⟩
/-- a name of a list of our own as an operand -/
theorem mp_ow {e : Expr} (i : Nat) (p : PE X e (tVar i)) : PE X e (rdP K T F W (p_ow i)) := pe_weak p fun σ H Q ⟨r, H0, R, w⟩ => by
  unfold p_ow at w
  split at w
  · rename_i s e
    by_cases o : isOwn s = true
    · rw [if_pos o] at w
      obtain ⟨a, u, e1, _⟩ := R.ownAt e o
      exact ⟨_, e1, w _ H H0 R (Sub.refl _) e1⟩
    · rw [if_neg o] at w; exact w.elim
  · exact w.elim
theorem rd_o1 {rr : V → Hp → VK → Prop} {f : D → Option D} (hm : OpM1 K T rr f) {σ : L2.St} {H : Hp} {Q : VK} (h : rdE K T F W (o1 f ma) σ H Q) : rdP K T F W ma σ H fun x H1 => rr x H1 Q := by
  obtain ⟨r, H0, R, w⟩ := h
  refine ⟨r, H0, R, WG.bind w fun x r1 e w1 v H' H0' R' s' hv => ?_⟩
  cases hx : res r1 x with
  | none => rw [hx] at w1; exact w1.elim
  | some dx =>
    rw [hx] at w1
    obtain ⟨z, hf, w2⟩ := WG.opt w1
    refine hm v dx z H' H0' R'.sub (R'.res hv hx) hf Q fun v' H2 H02 n => ?_
    obtain ⟨R2, s2, hz⟩ := R'.newOk n
    exact w2 v' H2 H02 R2 (s'.trans s2) hz
theorem rd_o2 {rr : R2} {f : D → D → Option D} (hm : OpM2 K T rr f) {σ : L2.St} {H : Hp} {Q : VK} (h : rdE K T F W (o2 f ma mb) σ H Q) : rdP K T F W ma σ H fun x H1 => rdP K T F W mb σ H1 fun y H2 => rr x y H2 Q := by
  obtain ⟨r, H0, R, w⟩ := h
  refine ⟨r, H0, R, WG.bind w fun x r1 e w1 v H' H0' R' s' hv => ⟨r1, H0', R', WG.bind (w1.mono s') fun y r2 e2 w2 u H2 H02 R2 s2 hu => ?_⟩⟩
  cases hx : res r2 x with
  | none => simp only [hx] at w2; exact w2.elim
  | some dx =>
    cases hy : res r2 y with
    | none => simp only [hx, hy] at w2; exact w2.elim
    | some dy =>
      simp only [hx, hy] at w2
      obtain ⟨z, hf, w3⟩ := WG.opt w2
      refine hm v u dx dy z H2 H02 R2.sub (R2.res (hv.mono s2) hx) (R2.res hu hy) hf Q fun v' H3 H03 n => ?_
      obtain ⟨R3, s3, hz⟩ := R2.newOk n
      exact w3 v' H3 H03 R3 ((s'.trans s2).trans s3) hz
/-- the new list is ours -/
theorem Rel.newL {σ : L2.St} {H H0 H' : Hp} {r : Rho} {ds : List D} {v : V} (R : Rel K T F σ H H0 r) (n : NewL K T H H0 ds v H') : Rel K T F (σ ++ [some v]) H' H0 (r ++ [.own ds]) := by
  obtain ⟨p, vs, hp, rfl, rfl, h⟩ := n
  have R1 : Rel K T F σ (upd H p (.lst vs)) H0 r := R.made hp
  obtain ⟨fp, f⟩ := R.fps
  have np : ∀ (i : Nat) (a : Addr), a ∈ fp i → a ≠ p := fun i a m z => by
    subst z
    obtain ⟨⟨o, e⟩, _⟩ := f.there m
    rw [hp] at e; cases e
  refine R1.push (t := .lst (ds.map .fz)) (g := [p]) rfl (.lst upd_same (R.sub.gone hp) (TreesOk.ofReps h)) (by simp) (fun a m => ?_) ⟨fp, ⟨fun i s e => (f.slot i s e).mono (Sub.refl _) fun a m o e n => ⟨by rw [upd_ne (np i a m)]; exact e, n⟩, f.out, f.nd, f.dj, f.mine⟩, fun i a m z => ?_⟩ R.pinLt
  · cases List.mem_singleton.mp m; exact .inl (R.freshE hp)
  · cases List.mem_singleton.mp m; exact np i _ z rfl
theorem rd_l2 {rr : R2} {f : D → D → Option (List D)} (hm : OpL2 K T rr f) {σ : L2.St} {H : Hp} {Q : VK} (h : rdL K T F W (o2 f ma mb) σ H Q) : rdP K T F W ma σ H fun x H1 => rdP K T F W mb σ H1 fun y H2 => rr x y H2 Q := by
  obtain ⟨r, H0, R, w⟩ := h
  refine ⟨r, H0, R, WG.bind w fun x r1 e w1 v H' H0' R' s' hv => ⟨r1, H0', R', WG.bind (w1.mono s') fun y r2 e2 w2 u H2 H02 R2 s2 hu => ?_⟩⟩
  cases hx : res r2 x with
  | none => simp only [hx] at w2; exact w2.elim
  | some dx =>
    cases hy : res r2 y with
    | none => simp only [hx, hy] at w2; exact w2.elim
    | some dy =>
      simp only [hx, hy] at w2
      obtain ⟨z, hf, w3⟩ := WG.opt w2
      refine hm v u dx dy z H2 H02 R2.sub (R2.res (hv.mono s2) hx) (R2.res hu hy) hf Q fun v' H3 n => ?_
      exact w3 v' H3 H02 (R2.newL n) (s'.trans s2)
theorem rd_os {rr : List V → Hp → VK → Prop} {f : List D → Option D} (hm : OpMs K T rr f) {mas : EM (List AD)} {σ : L2.St} {H : Hp} {Q : VK} (h : rdE K T F W (os f mas) σ H Q) : rdA K T F W mas σ H fun vs H1 => rr vs H1 Q := by
  obtain ⟨r, H0, R, w⟩ := h
  refine ⟨r, H0, R, WG.bind w fun x r1 e w1 vs H' H0' R' s' hv => ?_⟩
  cases hx : ress r1 x with
  | none => rw [hx] at w1; exact w1.elim
  | some ds =>
    rw [hx] at w1
    obtain ⟨z, hf, w2⟩ := WG.opt w1
    refine hm vs ds z H' H0' R'.sub (R'.ress hv hx) hf Q fun v' H2 H02 n => ?_
    obtain ⟨R2, s2, hz⟩ := R'.newOk n
    exact w2 v' H2 H02 R2 (s'.trans s2) hz
theorem rd_ls {rr : List V → Hp → VK → Prop} {f : List D → Option (List D)} (hm : OpLs K T rr f) {mas : EM (List AD)} {σ : L2.St} {H : Hp} {Q : VK} (h : rdL K T F W (os f mas) σ H Q) : rdA K T F W mas σ H fun vs H1 => rr vs H1 Q := by
  obtain ⟨r, H0, R, w⟩ := h
  refine ⟨r, H0, R, WG.bind w fun x r1 e w1 vs H' H0' R' s' hv => ?_⟩
  cases hx : ress r1 x with
  | none => rw [hx] at w1; exact w1.elim
  | some ds =>
    rw [hx] at w1
    obtain ⟨z, hf, w2⟩ := WG.opt w1
    refine hm vs ds z H' H0' R'.sub (R'.ress hv hx) hf Q fun v' H2 n => ?_
    exact w2 v' H2 H0' (R'.newL n) s'
end
end Ml
set_option Elab.async false
set_option linter.all false
set_option maxRecDepth 100000
set_option maxHeartbeats 4000000
/-! Ml3: statements; a def's promise by its mirror. -/
namespace Ml
open PySem L2
section
variable {K : PySem.W.Frag} {T : Tab} {F : Fc} {W : WX} {X : Cx} {pos : Pos}
theorem WS.mono {x : SO} {H0 H1 : Hp} {E : Ends} (s : Sub H0 H1) (h : WS K T F W x H0 E) : WS K T F W x H1 E := by
  cases x with
  | nx r => exact fun σ' H' H0' R s' => h σ' H' H0' R (s.trans s')
  | brk r => exact fun σ' H' H0' R s' => h σ' H' H0' R (s.trans s')
  | cnt r => exact fun σ' H' H0' R s' => h σ' H' H0' R (s.trans s')
  | rt v r => exact fun v σ' H' H0' R l pn s' => h v σ' H' H0' R l pn (s.trans s')
  | exc c fs r => exact fun dd σ' H' H0' R s' p => h dd σ' H' H0' R (s.trans s') p
  | bad => exact h
theorem Rel.lenL {σ : L2.St} {H H0 : Hp} {r : Rho} {u : Option V} {s : Slot} (R : Rel K T F (σ ++ [u]) H H0 (r ++ [s])) : σ.length = r.length := by have := R.len; simpa using this
/-- an expression ahead of what follows -/
theorem WS.of {α : Type} {x : EO α} {f : α → Rho → SO} {σ : L2.St} {H0 : Hp} {E : Ends} {k : α → Rho → Prop} (h : WS K T F W (x.seq f) H0 E) (step : ∀ a r, x = .ok a r → WS K T F W (f a r) H0 E → k a r) : WG K T F W x σ H0 k := by
  cases x with
  | ok a r => exact step a r rfl h
  | exc c fs r => exact fun dd H' H0' R s p => h dd σ H' H0' R s p
  | bad => exact h
def s_nil : SM := fun r => .nx r
def s_seq (a b : SM) : SM := fun r => match a r with
  | .nx r => b r
  | o => o
theorem ms_nil : PSs X [] (rdS K T F W s_nil) := pss_weak pss_nil fun E σ H ⟨r, H0, R, w⟩ => w σ H H0 R (Sub.refl _)
theorem ms_pass : PS X (.Pass pos) (rdS K T F W s_nil) := ps_weak ps_pass fun E σ H ⟨r, H0, R, w⟩ => w σ H H0 R (Sub.refl _)
theorem ms_cons {st : Stmt} {rest : List Stmt} {a b : SM} (h1 : PS X st (rdS K T F W a)) (h2 : PSs X rest (rdS K T F W b)) : PSs X (st :: rest) (rdS K T F W (s_seq a b)) := pss_weak (pss_cons h1 h2) fun E σ H ⟨r, H0, R, w⟩ => by
  refine ⟨r, H0, R, ?_⟩
  unfold s_seq at w
  cases h : a r with
  | nx r1 => rw [h] at w; exact fun σ' H' H0' R' s => ⟨r1, H0', R', w.mono s⟩
  | brk r1 => rw [h] at w; exact w
  | cnt r1 => rw [h] at w; exact w
  | rt v r1 => rw [h] at w; exact w
  | exc c fs r1 => rw [h] at w; exact w
  | bad => rw [h] at w; exact w
theorem ms_one {st : Stmt} {a : SM} (h1 : PS X st (rdS K T F W a)) : PSs X [st] (rdS K T F W a) := pss_one h1
def s_brk : SM := fun r => .brk r
def s_cnt : SM := fun r => .cnt r
theorem ms_brk : PS X (.Break pos) (rdS K T F W s_brk) := ps_weak ps_break fun E σ H ⟨r, H0, R, w⟩ => w σ H H0 R (Sub.refl _)
theorem ms_cnt : PS X (.Continue pos) (rdS K T F W s_cnt) := ps_weak ps_continue fun E σ H ⟨r, H0, R, w⟩ => w σ H H0 R (Sub.refl _)
/-! stores -/
theorem Rel.setFz {σ : L2.St} {H H0 : Hp} {r : Rho} (R : Rel K T F σ H H0 r) {i : Nat} {v : V} {d : D} (hi : ∀ p ∈ F.R, p.1 ≠ i) (h : Rep K T H0 v d) : Rel K T F (σ.set i (some v)) H H0 (r.set i (.fz d)) :=
  (R.pushFz h).store R.len R.pinLt hi
/-- the places of the arguments that a def may change -/
def Io (F : Fc) (l : List Nat) : Prop := F.R.map (·.1) = l
theorem Io.ne {l : List Nat} (h : Io F l) {i : Nat} (hi : l.contains i = false) : ∀ p ∈ F.R, p.1 ≠ i := fun p hp e => by
  have m : p.1 ∈ F.R.map (·.1) := List.mem_map.mpr ⟨p, hp, rfl⟩
  rw [h, e] at m
  have : l.contains i = true := List.contains_iff_mem.mpr m
  rw [hi] at this
  cases this
def s_set (i : Nat) (m : EM D) : SM := fun r => (m r).seq fun d r => .nx (r.set i (.fz d))
def s_own (i : Nat) (m : EM (List D)) : SM := fun r => (m r).seq fun ds r => .nx (r.set i (.own ds))
def s_ret (m : EM D) : SM := fun r => (m r).seq fun d r => .rt (.fz d) r
def s_retL (m : EM (List D)) : SM := fun r => (m r).seq fun ds r => .rt (.own ds) r
def s_retN : SM := fun r => .rt (.fz .non) r
def s_do (m : EM D) : SM := fun r => (m r).seq fun _ r => .nx r
theorem rd_set {io : List Nat} (hF : Io F io) {i : Nat} (hi : io.contains i = false) {m : EM D} {E : Ends} {σ : L2.St} {H : Hp} (h : rdS K T F W (s_set i m) E σ H) : rdE K T F W m σ H fun x H1 => gName i x σ H1 E.nx := by
  obtain ⟨r, H0, R, w⟩ := h
  exact ⟨r, H0, R, WS.of w fun d r1 _ w1 v H' H0' R' s hv => w1 _ H' H0' (R'.setFz (hF.ne hi) hv) s⟩
theorem rd_own {io : List Nat} (hF : Io F io) {i : Nat} (hi : io.contains i = false) {m : EM (List D)} {E : Ends} {σ : L2.St} {H : Hp} (h : rdS K T F W (s_own i m) E σ H) : rdL K T F W m σ H fun x H1 => gName i x σ H1 E.nx := by
  obtain ⟨r, H0, R, w⟩ := h
  exact ⟨r, H0, R, WS.of w fun ds r1 e w1 v H' H0' R' s => w1 _ H' H0' (R'.store (R'.lenL) R.pinLt (hF.ne hi)) s⟩
theorem ms_set {io : List Nat} (hF : Io F io) (i : Nat) {x : Str} {e : Expr} {m : EM D} {pos' : Pos} (he : PE X e (rdE K T F W m)) (hN : X.N.Nodup) (hi : X.N[i]? = some x := by rfl) (hx : Loc X.env.scope x := by first | exact .inl rfl | exact .inr rfl)
    (hs : swapsWith e (some (.Name x pos')) pos.line X.env = pure false := by rfl) (hf : X.fn x = true ∨ X.env.scope.names.lookup x = some .local := by first | exact .inl rfl | exact .inr rfl | assumption) (hio : io.contains i = false := by rfl) :
    PS X (.Assign [.Name x pos'] e pos) (rdS K T F W (s_set i m)) := ps_weak (ps_set hN hi hx he hs hf) fun _ _ _ => rd_set hF hio
theorem ms_own {io : List Nat} (hF : Io F io) (i : Nat) {x : Str} {e : Expr} {m : EM (List D)} {pos' : Pos} (he : PE X e (rdL K T F W m)) (hN : X.N.Nodup) (hi : X.N[i]? = some x := by rfl) (hx : Loc X.env.scope x := by first | exact .inl rfl | exact .inr rfl)
    (hs : swapsWith e (some (.Name x pos')) pos.line X.env = pure false := by rfl) (hf : X.fn x = true ∨ X.env.scope.names.lookup x = some .local := by first | exact .inl rfl | exact .inr rfl | assumption) (hio : io.contains i = false := by rfl) :
    PS X (.Assign [.Name x pos'] e pos) (rdS K T F W (s_own i m)) := ps_weak (ps_set hN hi hx he hs hf) fun _ _ _ => rd_own hF hio
theorem ms_ret {e : Expr} {m : EM D} (he : PE X e (rdE K T F W m)) : PS X (.Return (some e) pos) (rdS K T F W (s_ret m)) := ps_weak (ps_ret he) fun E σ H ⟨r, H0, R, w⟩ =>
  ⟨r, H0, R, WS.of w fun d r1 _ w1 v H' H0' R' s hv => w1 v σ H' H0' (R'.pushFz hv) R'.len R'.pins s⟩
theorem ms_retL {e : Expr} {m : EM (List D)} (he : PE X e (rdL K T F W m)) : PS X (.Return (some e) pos) (rdS K T F W (s_retL m)) := ps_weak (ps_ret he) fun E σ H ⟨r, H0, R, w⟩ =>
  ⟨r, H0, R, WS.of w fun ds r1 _ w1 v H' H0' R' s => w1 v σ H' H0' R' R'.lenL R.pins s⟩
theorem ms_retN : PS X (.Return none pos) (rdS K T F W s_retN) := ps_weak ps_retN fun E σ H ⟨r, H0, R, w⟩ => w .non σ H H0 (R.pushFz .non) R.len R.pins (Sub.refl _)
theorem ms_do {e : Expr} {m : EM D} (he : PE X e (rdE K T F W m)) (hs : swapsWith e none pos.line X.env = pure false := by rfl) : PS X (.Expr e pos) (rdS K T F W (s_do m)) := ps_weak (ps_expr he hs) fun E σ H ⟨r, H0, R, w⟩ =>
  ⟨r, H0, R, WS.of w fun d r1 _ w1 v H' H0' R' s hv => w1 σ H' H0' R' s⟩
def s_if (c : EM Bool) (a b : SM) : SM := fun r => (c r).seq fun k r => if k = true then a r else b r
theorem ms_if {c : Expr} {a b : List Stmt} {mc : EM Bool} {ma mb : SM} (hc : PT X c (rdT K T F W mc)) (ha : PSs X a (rdS K T F W ma)) (hb : PSs X b (rdS K T F W mb)) : PS X (.If c a b pos) (rdS K T F W (s_if mc ma mb)) := ps_weak (ps_if hc ha hb) fun E σ H ⟨r, H0, R, w⟩ =>
  ⟨r, H0, R, WS.of w fun k r1 _ w1 H' H0' R' s => by
    cases k with
    | true => exact (if_pos rfl) ▸ (show rdS K T F W ma E σ H' from ⟨r1, H0', R', WS.mono s (by simpa using w1)⟩)
    | false => exact (if_neg Bool.false_ne_true) ▸ (show rdS K T F W mb E σ H' from ⟨r1, H0', R', WS.mono s (by simpa using w1)⟩)⟩
/-- x = a value of its own; return it; drop it -/
def s_setV (i : Nat) (m : EM Slot) : SM := fun r => (m r).seq fun s r => .nx (r.set i s)
def s_retV (m : EM Slot) : SM := fun r => (m r).seq fun s r => .rt s r
def v_own (m : EM (List D)) : EM Slot := fun r => (m r).bind fun ds r => .ok (.own ds) r
def v_fz (m : EM D) : EM Slot := fun r => (m r).bind fun d r => .ok (.fz d) r
theorem mv_own {e : Expr} {m : EM (List D)} (p : PE X e (rdL K T F W m)) : PE X e (rdV K T F W (v_own m)) := pe_weak p fun σ H Q ⟨r, H0, R, w⟩ => ⟨r, H0, R, WG.bind w fun ds r1 _ w1 => w1⟩
theorem mv_fz {e : Expr} {m : EM D} (p : PE X e (rdE K T F W m)) : PE X e (rdV K T F W (v_fz m)) := pe_weak p fun σ H Q ⟨r, H0, R, w⟩ => ⟨r, H0, R, WG.bind w fun d r1 _ w1 v H' H0' R' s hv => w1 v H' H0' (R'.pushFz hv) s⟩
theorem rd_setV {io : List Nat} (hF : Io F io) {i : Nat} (hi : io.contains i = false) {m : EM Slot} {E : Ends} {σ : L2.St} {H : Hp} (h : rdS K T F W (s_setV i m) E σ H) : rdV K T F W m σ H fun x H1 => gName i x σ H1 E.nx := by
  obtain ⟨r, H0, R, w⟩ := h
  exact ⟨r, H0, R, WS.of w fun ds r1 e w1 v H' H0' R' s => w1 _ H' H0' (R'.store (R'.lenL) R.pinLt (hF.ne hi)) s⟩
theorem ms_setV {io : List Nat} (hF : Io F io) (i : Nat) {x : Str} {e : Expr} {m : EM Slot} {pos' : Pos} (he : PE X e (rdV K T F W m)) (hN : X.N.Nodup) (hi : X.N[i]? = some x := by rfl) (hx : Loc X.env.scope x := by first | exact .inl rfl | exact .inr rfl)
    (hs : swapsWith e (some (.Name x pos')) pos.line X.env = pure false := by rfl) (hf : X.fn x = true ∨ X.env.scope.names.lookup x = some .local := by first | exact .inl rfl | exact .inr rfl | assumption) (hio : io.contains i = false := by rfl) :
    PS X (.Assign [.Name x pos'] e pos) (rdS K T F W (s_setV i m)) := ps_weak (ps_set hN hi hx he hs hf) fun _ _ _ => rd_setV hF hio
theorem ms_retV {e : Expr} {m : EM Slot} (he : PE X e (rdV K T F W m)) : PS X (.Return (some e) pos) (rdS K T F W (s_retV m)) := ps_weak (ps_ret he) fun E σ H ⟨r, H0, R, w⟩ =>
  ⟨r, H0, R, WS.of w fun ds r1 _ w1 v H' H0' R' s => w1 v σ H' H0' R' R'.lenL R.pins s⟩
theorem ms_doV {e : Expr} {m : EM Slot} (he : PE X e (rdV K T F W m)) (hs : swapsWith e none pos.line X.env = pure false := by rfl) : PS X (.Expr e pos) (rdS K T F W (fun r => (m r).seq fun _ r => .nx r)) := ps_weak (ps_expr he hs) fun E σ H ⟨r, H0, R, w⟩ =>
  ⟨r, H0, R, WS.of w fun d r1 _ w1 v H' H0' R' s => w1 σ H' H0' (R'.drop R'.lenL R.pinLt) s⟩
end
end Ml
set_option Elab.async false
set_option linter.all false
set_option maxRecDepth 100000
set_option maxHeartbeats 4000000
/-! Ml4: a def's promise by its mirror; the call of a def. -/
namespace Ml
open PySem L2
/-- the arguments that may change: their places, their addresses -/
def owns (n : Nat) : List V → List Slot → List (Nat × Addr)
  | v :: vs, s :: ss => if isOwn s = true then (match v with
    | .ref a => (n, a) :: owns (n + 1) vs ss
    | _ => owns (n + 1) vs ss) else owns (n + 1) vs ss
  | _, _ => []
def ixOwn (n : Nat) : List Slot → List Nat
  | [] => []
  | s :: ss => if isOwn s = true then n :: ixOwn (n + 1) ss else ixOwn (n + 1) ss
theorem mem_owns : ∀ {vs : List V} {ss : List Slot} {n : Nat} {p : Nat × Addr}, p ∈ owns n vs ss → ∃ (i : Nat) (s : Slot), p.1 = n + i ∧ vs[i]? = some (.ref p.2) ∧ ss[i]? = some s ∧ isOwn s = true
  | [], _, _, _, h => by simp [owns] at h
  | _ :: _, [], _, _, h => by simp [owns] at h
  | v :: vs, s :: ss, n, p, h => by
    unfold owns at h
    by_cases o : isOwn s = true
    · rw [if_pos o] at h
      cases v with
      | ref a =>
        rcases List.mem_cons.mp h with e | h
        · subst e; exact ⟨0, s, rfl, rfl, rfl, o⟩
        · obtain ⟨i, t, e, a1, a2, a3⟩ := mem_owns h
          exact ⟨i + 1, t, by omega, by simpa using a1, by simpa using a2, a3⟩
      | _ =>
        obtain ⟨i, t, e, a1, a2, a3⟩ := mem_owns h
        exact ⟨i + 1, t, by omega, by simpa using a1, by simpa using a2, a3⟩
    · rw [if_neg o] at h
      obtain ⟨i, t, e, a1, a2, a3⟩ := mem_owns h
      exact ⟨i + 1, t, by omega, by simpa using a1, by simpa using a2, a3⟩
theorem owns_mem : ∀ {vs : List V} {ss : List Slot} {n i : Nat} {a : Addr} {s : Slot}, vs[i]? = some (.ref a) → ss[i]? = some s → isOwn s = true → (n + i, a) ∈ owns n vs ss
  | [], _, _, _, _, _, h, _, _ => by simp at h
  | _ :: _, [], _, _, _, _, _, h, _ => by simp at h
  | v :: vs, t :: ss, n, 0, a, s, h1, h2, o => by
    simp at h1 h2
    subst h1; subst h2
    unfold owns
    rw [if_pos o]
    exact List.mem_cons_self
  | v :: vs, t :: ss, n, i + 1, a, s, h1, h2, o => by
    have q := owns_mem (n := n + 1) (i := i) (a := a) (s := s) (by simpa using h1) (by simpa using h2) o
    have e : n + (i + 1) = n + 1 + i := by omega
    unfold owns
    rw [e]
    by_cases ot : isOwn t = true
    · rw [if_pos ot]
      cases v with
      | ref b => exact List.mem_cons_of_mem _ q
      | _ => exact q
    · rw [if_neg ot]
      exact q
theorem owns_ix : ∀ {vs : List V} {ss : List Slot} {n : Nat}, vs.length = ss.length → (∀ (i : Nat) (s : Slot), ss[i]? = some s → isOwn s = true → ∃ a, vs[i]? = some (.ref a)) → (owns n vs ss).map (·.1) = ixOwn n ss
  | [], [], _, _, _ => rfl
  | _ :: _, [], _, h, _ => by simp at h
  | [], _ :: _, _, h, _ => by simp at h
  | v :: vs, s :: ss, n, hl, h => by
    have ih := owns_ix (vs := vs) (ss := ss) (n := n + 1) (by simpa using hl) fun i t e o => by simpa using h (i + 1) t (by simpa using e) o
    unfold owns ixOwn
    by_cases o : isOwn s = true
    · obtain ⟨a, e⟩ := h 0 s rfl o
      simp at e
      subst e
      rw [if_pos o, if_pos o, List.map_cons, ih]
    · rw [if_neg o, if_neg o, ih]

section
variable {K : PySem.W.Frag} {T : Tab} {F : Fc} {W : WX} {X : Cx} {pos : Pos}
abbrev F0 (H H0 : Hp) (vs : List V) (ss : Rho) (A : Addr → Prop) : Fc := ⟨H, H0, A, owns 0 vs ss, fun _ _ _ => False⟩
/-- THE PROMISE of a def whose mirror is m -/
def spM (K : PySem.W.Frag) (T : Tab) (m : Rho → FO) : Sp := fun vs H Q E => ∃ H0 ss A, Rel K T (F0 H H0 vs ss A) (vs.map some) H H0 ss ∧ match m ss with
  | .ret s outs => ∀ v σ' H' H0', Rel K T (F0 H H0 vs ss A) (σ' ++ [some v]) H' H0' (outs ++ [s]) → σ'.length = outs.length → (∀ p ∈ owns 0 vs ss, σ'[p.1]? = some (some (.ref p.2))) → Q v H'
  | .exc c fs outs => ∀ dd σ' H' H0', Rel K T (F0 H H0 vs ss A) σ' H' H0' outs → Pay K T H' H0' c fs dd → E (.ref (T.cls c)) dd H'
  | .bad => False
def keepO : Rho → Rho → Rho
  | s :: ss, t :: r => (if isOwn s = true then t else .un) :: keepO ss r
  | _, _ => []
/-- the mirror of a def: io the places of the parameters that it changes, np how many parameters, nl how many other names -/
def defM (io : List Nat) (np nl : Nat) (body : SM) : Rho → FO := fun ss =>
  if ss.length = np ∧ ixOwn 0 ss = io then (match body (ss ++ List.replicate nl .un) with
    | .rt s r => .ret s (keepO ss r)
    | .nx r => .ret (.fz .non) (keepO ss r)
    | .exc c fs r => .exc c fs (keepO ss r)
    | _ => .bad) else .bad
theorem keepO_get : ∀ {ss r : Rho} {i : Nat} {s : Slot}, (keepO ss r)[i]? = some s → i < ss.length ∧ ((∃ t u, ss[i]? = some t ∧ isOwn t = true ∧ r[i]? = some u ∧ s = u) ∨ s = .un)
  | [], _, _, _, h => by simp [keepO] at h
  | _ :: _, [], _, _, h => by simp [keepO] at h
  | s :: ss, t :: r, 0, u, h => by
    simp [keepO] at h
    refine ⟨by simp, ?_⟩
    by_cases o : isOwn s = true
    · rw [if_pos o] at h; subst h; exact .inl ⟨s, t, rfl, o, rfl, rfl⟩
    · rw [if_neg o] at h; exact .inr h.symm
  | s :: ss, t :: r, i + 1, u, h => by
    have q := keepO_get (ss := ss) (r := r) (i := i) (s := u) (by simpa [keepO] using h)
    refine ⟨by simp; exact q.1, ?_⟩
    rcases q.2 with ⟨a, b, h1, h2, h3, h4⟩ | h
    · exact .inl ⟨a, b, by simpa using h1, h2, by simpa using h3, h4⟩
    · exact .inr h
theorem keepO_len : ∀ {ss r : Rho}, (keepO ss r).length = min ss.length r.length
  | [], r => by unfold keepO; simp
  | _ :: _, [] => by unfold keepO; simp
  | s :: ss, t :: r => by have := keepO_len (ss := ss) (r := r); simp [keepO, this]
theorem Rel.trim {σ : L2.St} {H H0 : Hp} {r : Rho} (R : Rel K T F σ H H0 r) (ss : Rho) (hp : ∀ p ∈ F.R, p.1 < ss.length) : Rel K T F (σ.take (keepO ss r).length) H H0 (keepO ss r) := by
  have g : ∀ (i : Nat) (s : Slot), (keepO ss r)[i]? = some s → (σ.take (keepO ss r).length)[i]? = σ[i]? := fun i s h => by
    rw [List.getElem?_take, if_pos (List.getElem?_eq_some_iff.mp h).1]
  refine R.pick (fun j => some j) ?_ (fun i s e => ?_) (fun j k i h1 h2 => by cases h1; cases h2; rfl) fun p h => ?_
  · rw [List.length_take, keepO_len, R.len]; omega
  · rw [g i s e]
    obtain ⟨h1, h2⟩ := keepO_get e
    rcases h2 with ⟨t, u, _, _, h3, rfl⟩ | rfl
    · exact .inr ⟨i, rfl, h3, rfl⟩
    · exact .inl ⟨rfl, trivial⟩
  · have q1 := R.pins p h
    have l1 : p.1 < σ.length := (List.getElem?_eq_some_iff.mp q1).1
    have l2 := hp p h
    rw [List.getElem?_take, if_pos (by rw [keepO_len, ← R.len]; omega)]; exact q1
theorem Rel.trimV {σ : L2.St} {H H0 : Hp} {r : Rho} {u : Option V} {x : Slot} (R : Rel K T F (σ ++ [u]) H H0 (r ++ [x])) (ss : Rho) (hp : ∀ p ∈ F.R, p.1 < ss.length) (hl : σ.length = r.length) (pn : ∀ p ∈ F.R, σ[p.1]? = some (some (.ref p.2))) :
    Rel K T F (σ.take (keepO ss r).length ++ [u]) H H0 (keepO ss r ++ [x]) ∧ (σ.take (keepO ss r).length).length = (keepO ss r).length ∧ ∀ p ∈ F.R, (σ.take (keepO ss r).length)[p.1]? = some (some (.ref p.2)) := by
  have kl : (keepO ss r).length ≤ r.length := by rw [keepO_len]; omega
  have tl : (σ.take (keepO ss r).length).length = (keepO ss r).length := by rw [List.length_take]; omega
  have pk : ∀ p ∈ F.R, (σ.take (keepO ss r).length)[p.1]? = some (some (.ref p.2)) := fun p h => by
    have q1 := pn p h
    have l1 : p.1 < σ.length := (List.getElem?_eq_some_iff.mp q1).1
    have l2 := hp p h
    rw [List.getElem?_take, if_pos (by rw [keepO_len, ← hl]; omega)]; exact q1
  refine ⟨R.pick (fun j => if j < (keepO ss r).length then some j else if j = (keepO ss r).length then some r.length else none) (by simp [tl]) (fun i s e => ?_) (fun j k i h1 h2 => ?_) (fun p h => by
    rw [List.getElem?_append_left (by have := (List.getElem?_eq_some_iff.mp (pk p h)).1; exact this)]; exact pk p h), tl, pk⟩
  · by_cases hi : i < (keepO ss r).length
    · rw [List.getElem?_append_left hi] at e
      rw [if_pos hi, List.getElem?_append_left (by rw [tl]; exact hi), List.getElem?_take, if_pos hi]
      obtain ⟨h1, h2⟩ := keepO_get e
      rcases h2 with ⟨t, w, _, _, h3, rfl⟩ | rfl
      · exact .inr ⟨i, rfl, by rw [List.getElem?_append_left (by omega)]; exact h3, (List.getElem?_append_left (by omega)).symm⟩
      · exact .inl ⟨rfl, trivial⟩
    · rw [List.getElem?_append_right (Nat.le_of_not_lt hi)] at e
      have z : i - (keepO ss r).length = 0 := by
        by_cases z : i - (keepO ss r).length = 0
        · exact z
        · rw [List.getElem?_eq_none (by simp; omega)] at e; cases e
      have zi : i = (keepO ss r).length := by omega
      rw [z] at e
      cases e
      refine .inr ⟨r.length, by rw [if_neg hi, if_pos zi], ?_, ?_⟩
      · rw [List.getElem?_append_right (Nat.le_refl _), Nat.sub_self]; rfl
      · rw [List.getElem?_append_right (by rw [tl]; omega), tl, z, List.getElem?_append_right (by rw [hl]; exact Nat.le_refl _), hl, Nat.sub_self]
  · try dsimp only at h1 h2
    split at h1
    · cases h1
      split at h2
      · cases h2; rfl
      · split at h2
        · cases h2; omega
        · cases h2
    · split at h1
      · cases h1
        split at h2
        · cases h2; omega
        · split at h2
          · omega
          · cases h2
      · cases h1
theorem Rel.more {vs : List V} {H H0 : Hp} {ss : Rho} (R : Rel K T F (vs.map some) H H0 ss) (n : Nat) : Rel K T F (vs.map some ++ List.replicate n none) H H0 (ss ++ List.replicate n .un) := by
  have hl : vs.length = ss.length := by simpa using R.len
  have gr : ∀ (i : Nat) (s : Slot), (ss ++ List.replicate n Slot.un)[i]? = some s → (i < ss.length ∧ ss[i]? = some s) ∨ s = .un := fun i s e => by
    by_cases h : i < ss.length
    · rw [List.getElem?_append_left h] at e; exact .inl ⟨h, e⟩
    · rw [List.getElem?_append_right (Nat.le_of_not_lt h), List.getElem?_replicate] at e
      split at e
      · cases e; exact .inr rfl
      · cases e
  have gs : ∀ (i : Nat), i < ss.length → (vs.map some ++ List.replicate n (none : Option V))[i]? = (vs.map some)[i]? := fun i h => List.getElem?_append_left (by rw [List.length_map, hl]; exact h)
  refine R.pick (fun j => if j < ss.length then some j else none) (by simp [hl]) (fun i s e => ?_) (fun j k i h1 h2 => ?_) fun p h => ?_
  · rcases gr i s e with ⟨h, e⟩ | rfl
    · exact .inr ⟨i, if_pos h, e, gs i h⟩
    · exact .inl ⟨rfl, trivial⟩
  · try dsimp only at h1 h2
    split at h1
    · split at h2
      · cases h1; cases h2; rfl
      · cases h2
    · cases h1
  · have q1 := R.pins p h
    have : p.1 < (vs.map some).length := (List.getElem?_eq_some_iff.mp q1).1
    rw [gs p.1 (by rw [List.length_map, hl] at this; exact this)]
    exact q1
/-- a def of the text: from its body's walk to its promise -/
theorem fn_ml {P : Program} {w : World} {mg : Str → Option Value} {base : Heap} {x qual : Str} {st : Stmt} {f : Addr} {fd : FuncData} {N ps : List Str} {k nl : Nat} {io : List Nat} {body : SM} (hf : Fun K x qual st f fd) (S : FnScope N ps (defScope st))
    (hN : N.length = ps.length + nl)
    (hb : ∀ (cdv : Value) (A : Around) (outer : List Env) (s : Shared) (H : Hp) (E : XK) (F : Fc), Room k (A.deeper (PyProof.Rows.envOfC qual (defScope st) s.heap.objs.size f cdv)) → Io F io →
      PSs (cxOf (L2.CX P w) P w K mg base N qual (defScope st) f cdv A outer s H E) (defBody st) (rdS K T F (fun cls d _ H' => E cls d H') body)) :
    FnOk P w K mg base (L2.CX P w) (k + 1) f fd ps (spM K T (defM io ps.length nl body)) := by
  have dec : ∀ {ss : Rho}, defM io ps.length nl body ss ≠ .bad → ss.length = ps.length ∧ ixOwn 0 ss = io := fun {ss} h => by
    unfold defM at h
    by_cases c : ss.length = ps.length ∧ ixOwn 0 ss = io
    · exact c
    · rw [if_neg c] at h; exact absurd rfl h
  have nb : ∀ vs H Q E, spM K T (defM io ps.length nl body) vs H Q E → ∃ H0 ss A, Rel K T (F0 H H0 vs ss A) (vs.map some) H H0 ss ∧ (ss.length = ps.length ∧ ixOwn 0 ss = io) := fun vs H Q E ⟨H0, ss, A, R, w⟩ => ⟨H0, ss, A, R, dec fun z => by rw [z] at w; exact w⟩
  refine Fun.okX hf S (fun vs H Q E h => ?_) fun cdv A outer s H vs Q E hr h => ?_
  · obtain ⟨H0, ss, A, R, c1, _⟩ := nb vs H Q E h
    rw [← c1]
    simpa using R.len
  · obtain ⟨H0, ss, AA, R, w⟩ := h
    have c := dec (ss := ss) fun z => by rw [z] at w; exact w
    have hl : vs.length = ss.length := by simpa using R.len
    have hO : Io (F0 H H0 vs ss AA) io := by
      show (owns 0 vs ss).map (·.1) = io
      rw [← c.2]
      refine owns_ix hl fun i s e o => ?_
      obtain ⟨a, u, e1, _⟩ := R.ownAt e o
      rw [List.getElem?_map] at e1
      cases q : vs[i]? with
      | none => rw [q] at e1; cases e1
      | some v => rw [q] at e1; cases e1; exact ⟨a, rfl⟩
    refine ⟨_, hb cdv A outer s H E (F0 H H0 vs ss AA) hr hO, ss ++ List.replicate nl .un, H0, ?_, ?_⟩
    · have e : L2.start N vs = vs.map some ++ List.replicate nl none := by
        unfold L2.start
        rw [hN, hl, c.1]
        congr 2
        omega
      rw [e]
      exact R.more nl
    · have hp : ∀ p ∈ (F0 H H0 vs ss AA).R, p.1 < ss.length := fun p h => by
        obtain ⟨i, s, e, _, e2, _⟩ := mem_owns h
        have := (List.getElem?_eq_some_iff.mp e2).1
        omega
      unfold defM at w
      rw [if_pos c] at w
      cases hbd : body (ss ++ List.replicate nl .un) with
      | nx r =>
        rw [hbd] at w
        exact fun σ' H' H0' R' _ => by
          obtain ⟨k1, k2, k3⟩ := (R'.pushFz .non).trimV ss hp R'.len R'.pins
          exact w .non _ H' H0' k1 k2 k3
      | rt v r =>
        rw [hbd] at w
        exact fun u σ' H' H0' R' hl' pn _ => by
          obtain ⟨k1, k2, k3⟩ := R'.trimV ss hp hl' pn
          exact w u _ H' H0' k1 k2 k3
      | exc c fs r =>
        rw [hbd] at w
        exact fun dd σ' H' H0' R' _ q => w dd _ H' H0' (R'.trim ss hp) q
      | brk r => rw [hbd] at w; exact w.elim
      | cnt r => rw [hbd] at w; exact w.elim
      | bad => rw [hbd] at w; exact w.elim
end
end Ml
set_option Elab.async false
set_option linter.all false
set_option maxRecDepth 100000
set_option maxHeartbeats 4000000
/-! Ml5: the call of a def by its mirror. -/
namespace Ml
open PySem L2
/-- the arguments as the callee's slots -/
def slots (r : Rho) : List AD → Option Rho
  | [] => some []
  | .d d :: as => match slots r as with
    | some ss => some (.fz d :: ss)
    | none => none
  | .ow i :: as => match r[i]?, slots r as with
    | some s, some ss => if isOwn s = true then some (s :: ss) else none
    | _, _ => none
def hasOw (i : Nat) : List AD → Bool
  | [] => false
  | .ow j :: as => if j = i then true else hasOw i as
  | .d _ :: as => hasOw i as
def ndOw : List AD → Bool
  | [] => true
  | .ow i :: as => if hasOw i as = true then false else ndOw as
  | .d _ :: as => ndOw as
/-- what stands behind the call -/
def put (r : Rho) : List AD → Rho → Option Rho
  | [], _ => some r
  | .d _ :: as, _ :: os => put r as os
  | .ow i :: as, o :: os => if isOwn o = true then put (r.set i o) as os else none
  | _ :: _, [] => none
theorem hasOw_iff {i : Nat} : ∀ {as : List AD}, hasOw i as = true ↔ ∃ j : Nat, as[j]? = some (AD.ow i)
  | [] => by simp [hasOw]
  | .d d :: as => by
    unfold hasOw
    rw [hasOw_iff]
    constructor
    · rintro ⟨j, h⟩; exact ⟨j + 1, by simpa using h⟩
    · rintro ⟨j, h⟩
      cases j with
      | zero => simp at h
      | succ j => exact ⟨j, by simpa using h⟩
  | .ow k :: as => by
    unfold hasOw
    by_cases e : k = i
    · rw [if_pos e]; exact ⟨fun _ => ⟨0, by simp [e]⟩, fun _ => rfl⟩
    · rw [if_neg e, hasOw_iff]
      constructor
      · rintro ⟨j, h⟩; exact ⟨j + 1, by simpa using h⟩
      · rintro ⟨j, h⟩
        cases j with
        | zero => simp at h; exact absurd h e
        | succ j => exact ⟨j, by simpa using h⟩
theorem ndOw_inj : ∀ {as : List AD}, ndOw as = true → ∀ {i j k : Nat}, as[i]? = some (AD.ow k) → as[j]? = some (AD.ow k) → i = j
  | [], _, _, _, _, h, _ => by simp at h
  | .d d :: as, h, i, j, k, h1, h2 => by
    cases i with
    | zero => simp at h1
    | succ i =>
      cases j with
      | zero => simp at h2
      | succ j => exact congrArg (· + 1) (ndOw_inj (as := as) (by simpa [ndOw] using h) (by simpa using h1) (by simpa using h2))
  | .ow m :: as, h, i, j, k, h1, h2 => by
    unfold ndOw at h
    by_cases c : hasOw m as = true
    · rw [if_pos c] at h; cases h
    · rw [if_neg c] at h
      cases i with
      | zero =>
        cases j with
        | zero => rfl
        | succ j =>
          simp at h1 h2
          exact absurd (hasOw_iff.mpr ⟨j, by rw [h1]; exact h2⟩) c
      | succ i =>
        cases j with
        | zero =>
          simp at h1 h2
          exact absurd (hasOw_iff.mpr ⟨i, by rw [h2]; exact h1⟩) c
        | succ j => exact congrArg (· + 1) (ndOw_inj (as := as) h (by simpa using h1) (by simpa using h2))
theorem slots_get {r : Rho} : ∀ {as : List AD} {ss : Rho}, slots r as = some ss → as.length = ss.length ∧ ∀ (j : Nat) (s : Slot), ss[j]? = some s → (∃ d, as[j]? = some (.d d) ∧ s = .fz d) ∨ ∃ i, as[j]? = some (.ow i) ∧ r[i]? = some s ∧ isOwn s = true
  | [], ss, h => by cases h; exact ⟨rfl, fun j s e => by simp at e⟩
  | .d d :: as, ss, h => by
    unfold slots at h
    cases q : slots r as with
    | none => rw [q] at h; cases h
    | some ts =>
      rw [q] at h; cases h
      obtain ⟨h1, h2⟩ := slots_get q
      refine ⟨by simp [h1], fun j s e => ?_⟩
      cases j with
      | zero => simp at e; exact .inl ⟨d, rfl, e.symm⟩
      | succ j => simpa using h2 j s (by simpa using e)
  | .ow i :: as, ss, h => by
    unfold slots at h
    cases q1 : r[i]? with
    | none => rw [q1] at h; cases h
    | some s0 =>
      cases q : slots r as with
      | none => rw [q1, q] at h; cases h
      | some ts =>
        rw [q1, q] at h
        by_cases o : isOwn s0 = true
        · simp only [if_pos o] at h
          cases h
          obtain ⟨h1, h2⟩ := slots_get q
          refine ⟨by simp [h1], fun j s e => ?_⟩
          cases j with
          | zero => simp at e; subst e; exact .inr ⟨i, rfl, q1, o⟩
          | succ j => simpa using h2 j s (by simpa using e)
        · simp only [if_neg o] at h; cases h
theorem put_get : ∀ {as : List AD} {os r r2 : Rho}, put r as os = some r2 → ndOw as = true → r2.length = r.length ∧ ∀ (i : Nat) (s : Slot), r2[i]? = some s → (∃ (j : Nat), as[j]? = some (.ow i) ∧ os[j]? = some s ∧ isOwn s = true) ∨ ((∀ j : Nat, as[j]? ≠ some (.ow i)) ∧ r[i]? = some s)
  | [], os, r, r2, h, _ => by
    have h : some r = some r2 := by cases os <;> exact h
    cases h; exact ⟨rfl, fun i s e => .inr ⟨fun j z => by simp at z, e⟩⟩
  | .d d :: as, [], r, r2, h, _ => by cases h
  | .ow k :: as, [], r, r2, h, _ => by cases h
  | .d d :: as, o :: os, r, r2, h, nd => by
    obtain ⟨h1, h2⟩ := put_get (as := as) (os := os) (r := r) (r2 := r2) h nd
    refine ⟨h1, fun i s e => ?_⟩
    rcases h2 i s e with ⟨j, a1, a2, a3⟩ | ⟨a1, a2⟩
    · exact .inl ⟨j + 1, by simpa using a1, by simpa using a2, a3⟩
    · refine .inr ⟨fun j z => ?_, a2⟩
      cases j with
      | zero => simp at z
      | succ j => exact a1 j (by simpa using z)
  | .ow k :: as, o :: os, r, r2, h, nd => by
    unfold put at h
    by_cases ow : isOwn o = true
    · rw [if_pos ow] at h
      have nd1 : hasOw k as = false ∧ ndOw as = true := by
        unfold ndOw at nd
        by_cases c : hasOw k as = true
        · rw [if_pos c] at nd; cases nd
        · rw [if_neg c] at nd; exact ⟨by simpa using c, nd⟩
      obtain ⟨h1, h2⟩ := put_get (as := as) (os := os) (r := r.set k o) (r2 := r2) h nd1.2
      refine ⟨by rw [h1, List.length_set], fun i s e => ?_⟩
      rcases h2 i s e with ⟨j, a1, a2, a3⟩ | ⟨a1, a2⟩
      · exact .inl ⟨j + 1, by simpa using a1, by simpa using a2, a3⟩
      · by_cases hik : i = k
        · subst hik
          have hl : i < r.length := by
            have := (List.getElem?_eq_some_iff.mp a2).1
            simpa using this
          rw [List.getElem?_set_self hl] at a2
          cases a2
          exact .inl ⟨0, rfl, rfl, ow⟩
        · rw [List.getElem?_set_ne (Ne.symm hik)] at a2
          refine .inr ⟨fun j z => ?_, a2⟩
          cases j with
          | zero => simp at z; exact hik z.symm
          | succ j => exact a1 j (by simpa using z)
    · rw [if_neg ow] at h; cases h
section
variable {K : PySem.W.Frag} {T : Tab} {F : Fc} {W : WX} {X : Cx} {pos : Pos}
theorem ArgsOk.len {σ : L2.St} {H0 : Hp} : ∀ {vs : List V} {as : List AD}, ArgsOk K T σ H0 vs as → vs.length = as.length
  | _, _, .nil => rfl
  | _, _, .cons _ t => by simp [t.len]
theorem ArgsOk.get {σ : L2.St} {H0 : Hp} : ∀ {vs : List V} {as : List AD} {j : Nat} {a : AD}, ArgsOk K T σ H0 vs as → as[j]? = some a → ∃ v, vs[j]? = some v ∧ ArgOk K T σ H0 v a
  | _, _, _, _, .nil, e => by simp at e
  | _, _, 0, _, .cons h _, e => by simp at e; subst e; exact ⟨_, rfl, h⟩
  | _, _, j + 1, a, .cons _ t, e => by
    obtain ⟨v, h1, h2⟩ := t.get (j := j) (a := a) (by simpa using e)
    exact ⟨v, by simpa using h1, h2⟩
theorem put_old {r r2 ss outs : Rho} {as : List AD} (hs : slots r as = some ss) (nd : ndOw as = true) (hp : put r as outs = some r2) (i : Nat) (s : Slot) (e : r2[i]? = some s) (o : isOwn s = true) : ∃ t, r[i]? = some t ∧ isOwn t = true := by
  obtain ⟨hl, hg⟩ := slots_get hs
  obtain ⟨pl, pg⟩ := put_get hp nd
  rcases pg i s e with ⟨j, a1, a2, a3⟩ | ⟨a1, a2⟩
  · have hss : ∃ t, ss[j]? = some t := by
      have : j < ss.length := by rw [← hl]; exact (List.getElem?_eq_some_iff.mp a1).1
      exact ⟨ss[j], List.getElem?_eq_getElem this⟩
    obtain ⟨t, ht⟩ := hss
    rcases hg j t ht with ⟨d, z, _⟩ | ⟨i', z, e2, o⟩
    · rw [a1] at z; cases z
    · rw [a1] at z; cases z; exact ⟨t, e2, o⟩
  · exact ⟨s, a2, o⟩
theorem SlotOk.frame {F' : Fc} {H H0 : Hp} {u : Option (Option V)} {s : Slot} {fp : List Addr} (hx : ∀ a b c, ¬ F.xv a b c) (h : SlotOk K T F H H0 u s fp) : SlotOk K T F' H H0 u s fp := by
  unfold SlotOk at h ⊢
  cases q : tree s with
  | some t => rw [q] at h; exact h
  | none =>
    rw [q] at h
    refine ⟨h.1, ?_⟩
    have z := h.2
    cases s with
    | un => trivial
    | fz d => exact z
    | exv c fs => obtain ⟨a, d, _, x, _⟩ := z; exact (hx _ _ _ x).elim
    | own ds => exact z.elim
    | obj c ds => exact z.elim
    | tr t => exact z.elim
theorem call_ok {σ : L2.St} {H H0 : Hp} {r ss : Rho} {vs : List V} {as : List AD} (R : Rel K T F σ H H0 r) (ha : ArgsOk K T σ H0 vs as) (hs : slots r as = some ss) (nd : ndOw as = true) :
    ∃ A, Rel K T (F0 H H0 vs ss A) (vs.map some) H H0 ss ∧ ∀ v σ' H' H0' s outs r2, Rel K T (F0 H H0 vs ss A) (σ' ++ [some v]) H' H0' (outs ++ [s]) → σ'.length = outs.length → (∀ p ∈ owns 0 vs ss, σ'[p.1]? = some (some (.ref p.2))) → put r as outs = some r2 →
      Rel K T F (σ ++ [some v]) H' H0' (r2 ++ [s]) ∧ Sub H0 H0' := by
  obtain ⟨hl, hg⟩ := slots_get hs
  obtain ⟨fp, f⟩ := R.fps
  have sg : ∀ (j : Nat) (v : V), vs[j]? = some v → (vs.map some)[j]? = some (some v) := fun j v e => by rw [List.getElem?_map, e]; rfl
  -- an own argument
  have at_ : ∀ (j : Nat) (s : Slot), ss[j]? = some s → isOwn s = true → ∃ i a, as[j]? = some (.ow i) ∧ r[i]? = some s ∧ vs[j]? = some (.ref a) ∧ σ[i]? = some (some (.ref a)) := fun j s e o => by
    rcases hg j s e with ⟨d, _, rfl⟩ | ⟨i, e1, e2, _⟩
    · cases o
    · obtain ⟨a, u, q1, q2, q3⟩ := R.ownAt e2 o
      obtain ⟨v, h1, h2⟩ := ha.get e1
      have h2' : σ[i]? = some (some v) := h2
      rw [q1] at h2'; cases h2'
      exact ⟨i, a, e1, e2, h1, q1⟩
  have argS : ∀ (j i : Nat), as[j]? = some (.ow i) → ∃ s, ss[j]? = some s ∧ r[i]? = some s ∧ isOwn s = true := fun j i e => by
    have hj : j < ss.length := by rw [← hl]; exact (List.getElem?_eq_some_iff.mp e).1
    have e2 : ss[j]? = some ss[j] := List.getElem?_eq_getElem hj
    rcases hg j _ e2 with ⟨d, z, _⟩ | ⟨i', z, e3, o⟩
    · rw [e] at z; cases z
    · rw [e] at z; cases z; exact ⟨_, e2, e3, o⟩
  let fc : Nat → List Addr := fun j => match as[j]? with
    | some (.ow i) => fp i
    | _ => []
  have fcm : ∀ j a, a ∈ fc j → ∃ i, as[j]? = some (.ow i) ∧ a ∈ fp i := fun j a m => by
    have m : a ∈ (match as[j]? with | some (.ow i) => fp i | _ => []) := m
    split at m
    · rename_i i e; exact ⟨i, e, m⟩
    · cases m
  have fco : ∀ j i, as[j]? = some (.ow i) → fc j = fp i := fun j i e => by
    show (match as[j]? with | some (.ow i) => fp i | _ => []) = fp i
    rw [e]
  refine ⟨fun b => ∃ (i j : Nat), as[j]? = some (AD.ow i) ∧ b ∈ fp i, ⟨by rw [List.length_map, ha.len, hl], R.sub, Sub.refl _, fun b o e _ => e, fun b e => e, fun b h1 h2 => absurd h2 h1, ⟨fc, fun j s e => ?_, fun j e => ?_, fun j => ?_, fun j k a m1 m2 => ?_, fun j a m => ?_⟩, fun p hp => ?_⟩, ?_⟩
  · rcases hg j s e with ⟨d, e1, rfl⟩ | ⟨i, e1, e2, o⟩
    · obtain ⟨v, h1, h2⟩ := ha.get e1
      refine ⟨?_, v, sg j v h1, h2⟩
      show (match as[j]? with | some (.ow i) => fp i | _ => []) = []
      rw [e1]
    · obtain ⟨i', a, e3, e4, e5, e6⟩ := at_ j s e o
      rw [e1] at e3; cases e3
      rw [fco j i e1, sg j _ e5]
      have q := f.slot i s e4
      rw [e6] at q
      unfold SlotOk at q ⊢
      obtain ⟨t, et, _⟩ := own_tree o
      rw [et] at q ⊢
      exact q
  · show (match as[j]? with | some (.ow i) => fp i | _ => []) = []
    rw [List.getElem?_eq_none (by rw [hl]; exact List.getElem?_eq_none_iff.mp e)]
  · show (match as[j]? with | some (.ow i) => fp i | _ => []).Nodup
    split
    · exact f.nd _
    · exact List.nodup_nil
  · obtain ⟨i1, q1, n1⟩ := fcm j a m1
    obtain ⟨i2, q2, n2⟩ := fcm k a m2
    have := f.dj i1 i2 a n1 n2
    subst this
    exact ndOw_inj nd q1 q2
  · obtain ⟨i, q, n⟩ := fcm j a m
    exact .inr ⟨i, j, q, n⟩
  · obtain ⟨j, s, q1, q2, q3, q4⟩ := mem_owns hp
    have : p.1 = j := by omega
    rw [this]
    exact sg j _ q2
  · intro v σ' H' H0' s outs r2 R' lo pn hp
    obtain ⟨fp', f'⟩ := R'.fps
    obtain ⟨pl, pg⟩ := put_get hp nd
    have mineC : ∀ a, Mine (F0 H H0 vs ss fun b => ∃ (i j : Nat), as[j]? = some (AD.ow i) ∧ b ∈ fp i) a → Mine F a ∧ ∀ i, (∀ j : Nat, as[j]? ≠ some (.ow i)) → a ∉ fp i := fun a m => by
      rcases m with m | ⟨i', j', e, m⟩
      · have m : H a = none := m
        exact ⟨.inl (R.freshE m), fun i _ z => by obtain ⟨⟨o, e⟩, _⟩ := f.there z; rw [m] at e; cases e⟩
      · exact ⟨f.mine i' a m, fun i hn z => by have := f.dj i i' a z m; subst this; exact hn j' e⟩
    have notA : ∀ i b, (∀ j : Nat, as[j]? ≠ some (.ow i)) → b ∈ fp i → ¬ ∃ (i j : Nat), as[j]? = some (AD.ow i) ∧ b ∈ fp i := fun i b hn m ⟨i', j', e, m'⟩ => by
      have := f.dj i i' b m m'; subst this; exact hn j' e
    have choice : ∀ i : Nat, ∃ oj : Option Nat, (∀ j, oj = some j → as[j]? = some (.ow i)) ∧ (oj = none → ∀ j : Nat, as[j]? ≠ some (.ow i)) := fun i => by
      by_cases h : ∃ j : Nat, as[j]? = some (.ow i)
      · obtain ⟨j, h⟩ := h; exact ⟨some j, fun k e => by cases e; exact h, fun e => by cases e⟩
      · exact ⟨none, fun k e => (by cases e), fun _ j e => h ⟨j, e⟩⟩
    obtain ⟨jof, hj⟩ := Classical.skolem.mp choice
    have hjs : ∀ {i j : Nat}, as[j]? = some (.ow i) → jof i = some j := fun {i j} e => by
      cases q : jof i with
      | none => exact absurd e ((hj i).2 q j)
      | some k => rw [ndOw_inj nd ((hj i).1 k q) e]
    have hjn : ∀ {i : Nat}, (∀ j : Nat, as[j]? ≠ some (.ow i)) → jof i = none := fun {i} h => by
      cases q : jof i with
      | none => rfl
      | some k => exact absurd ((hj i).1 k q) (h k)
    have lastS : SlotOk K T F H' H0' (some (some v)) s (fp' outs.length) := by
      have q := f'.slot outs.length s (by rw [List.getElem?_append_right (Nat.le_refl _), Nat.sub_self]; rfl)
      rw [List.getElem?_append_right (by rw [lo]; exact Nat.le_refl _), lo, Nat.sub_self] at q
      exact q.frame fun _ _ _ h => h
    have last : ∀ (i : Nat) (x : Slot), (r2 ++ [s])[i]? = some x → (i = r2.length ∧ x = s) ∨ (i < r2.length ∧ r2[i]? = some x) := fun i x e => by
      by_cases h : i < r2.length
      · rw [List.getElem?_append_left h] at e; exact .inr ⟨h, e⟩
      · rw [List.getElem?_append_right (Nat.le_of_not_lt h)] at e
        have : i - r2.length = 0 := by
          by_cases z : i - r2.length = 0
          · exact z
          · rw [List.getElem?_eq_none (by simp; omega)] at e; cases e
        rw [this] at e
        cases e
        exact .inl ⟨by omega, rfl⟩
    -- where each address of the new footprints comes from
    have src : ∀ i a, a ∈ (if i = r2.length then fp' outs.length else match jof i with | some j => fp' j | none => fp i) → (∃ j, a ∈ fp' j ∧ (i = r2.length → j = outs.length) ∧ (i ≠ r2.length → as[j]? = some (.ow i))) ∨ (i ≠ r2.length ∧ (∀ j : Nat, as[j]? ≠ some (.ow i)) ∧ a ∈ fp i) := fun i a m => by
      by_cases z : i = r2.length
      · rw [if_pos z] at m; exact .inl ⟨_, m, fun _ => rfl, fun h => absurd z h⟩
      · rw [if_neg z] at m
        cases q : jof i with
        | some j => rw [q] at m; exact .inl ⟨j, m, fun h => absurd h z, fun _ => (hj i).1 j q⟩
        | none => rw [q] at m; exact .inr ⟨z, (hj i).2 q, m⟩
    have asLt : ∀ {j i : Nat}, as[j]? = some (.ow i) → i < r2.length ∧ j < outs.length := fun {j i} e => by
      obtain ⟨t, e1, e2, o⟩ := argS j i e
      have hi : i < r.length := (List.getElem?_eq_some_iff.mp e2).1
      have hi2 : i < r2.length := by rw [pl]; exact hi
      refine ⟨hi2, ?_⟩
      rcases pg i _ (List.getElem?_eq_getElem hi2) with ⟨j', a1, a2, _⟩ | ⟨a1, _⟩
      · have := ndOw_inj nd a1 e; subst this; exact (List.getElem?_eq_some_iff.mp a2).1
      · exact absurd e (a1 j)
    refine ⟨⟨by simp [pl, R.len], R'.sub, R.base.trans R'.base, fun b o e n => ?_, fun b e => R'.there b (R.there b e), fun b h1 h2 => ?_, ⟨fun i => if i = r2.length then fp' outs.length else match jof i with | some j => fp' j | none => fp i, fun i x e => ?_, fun i e => ?_, fun i => ?_, fun i k a m1 m2 => ?_, fun i a m => ?_⟩, fun p h => ?_⟩, R'.base⟩
    · refine R'.keep b o (R.keep b o e n) fun z => ?_
      obtain ⟨i, j, _, m⟩ := z
      rcases f.mine i b m with q | q
      · rw [q] at e; cases e
      · exact n q
    · cases q : H0 b with
      | some w => exact R.new b (by rw [q]; exact fun z => by cases z) h2
      | none => exact (mineC b (R'.new b h1 q)).1
    · rcases last i x e with ⟨rfl, rfl⟩ | ⟨h, e'⟩
      · rw [List.getElem?_append_right (by rw [pl, R.len]; exact Nat.le_refl _), pl, R.len, Nat.sub_self]
        simp only [if_true]
        exact lastS
      · have ne : i ≠ r2.length := by omega
        rw [List.getElem?_append_left (by rw [R.len, ← pl]; exact h)]
        simp only [if_neg ne]
        rcases pg i x e' with ⟨j, a1, a2, a3⟩ | ⟨a1, a2⟩
        · rw [hjs a1]
          obtain ⟨t, e1, e2, o⟩ := argS j i a1
          obtain ⟨i', a, b1, b2, b3, b4⟩ := at_ j t e1 o
          rw [a1] at b1; cases b1
          have pin := pn (j, a) (by have := owns_mem (n := 0) b3 e1 o; rw [Nat.zero_add] at this; exact this)
          have hjl := (asLt a1).2
          have q := f'.slot j x (by rw [List.getElem?_append_left hjl]; exact a2)
          rw [List.getElem?_append_left (by rw [lo]; exact hjl), pin] at q
          rw [b4]
          exact q.frame fun _ _ _ h => h
        · rw [hjn a1]
          refine (f.slot i x a2).mono R'.base fun a m o e n => ⟨R'.keep a o e (notA i a a1 m), ?_⟩
          cases q : H0' a with
          | none => rfl
          | some w =>
            rcases R'.new a (by rw [q]; exact fun z => by cases z) n with z | z
            · have z : H a = none := z
              rw [show H a = some o from e] at z; cases z
            · exact absurd z (notA i a a1 m)
    · have : (r2 ++ [s]).length ≤ i := List.getElem?_eq_none_iff.mp e
      have l : r2.length + 1 ≤ i := by simpa using this
      have ne : i ≠ r2.length := by omega
      simp only [if_neg ne]
      rw [hjn fun j z => by have := (asLt z).1; omega]
      exact f.out i (List.getElem?_eq_none (by rw [← pl]; omega))
    · by_cases z : i = r2.length
      · simp only [if_pos z]; exact f'.nd _
      · simp only [if_neg z]
        cases jof i with
        | some j => exact f'.nd j
        | none => exact f.nd i
    · rcases src i a m1 with ⟨j1, n1, c1, d1⟩ | ⟨z1, n1, w1⟩
      · rcases src k a m2 with ⟨j2, n2, c2, d2⟩ | ⟨z2, n2, w2⟩
        · have := f'.dj j1 j2 a n1 n2
          subst this
          by_cases y1 : i = r2.length
          · by_cases y2 : k = r2.length
            · rw [y1, y2]
            · have := (asLt (d2 y2)).2; have := c1 y1; omega
          · by_cases y2 : k = r2.length
            · have := (asLt (d1 y1)).2; have := c2 y2; omega
            · have q1 := d1 y1; have q2 := d2 y2; rw [q1] at q2; cases q2; rfl
        · exact absurd w2 ((mineC a (f'.mine j1 a n1)).2 k n2)
      · rcases src k a m2 with ⟨j2, n2, c2, d2⟩ | ⟨z2, n2, w2⟩
        · exact absurd w1 ((mineC a (f'.mine j2 a n2)).2 i n1)
        · exact f.dj i k a w1 w2
    · rcases src i a m with ⟨j1, n1, _⟩ | ⟨_, _, w1⟩
      · exact (mineC a (f'.mine j1 a n1)).1
      · exact f.mine i a w1
    · rw [List.getElem?_append_left (R.pinLt p h)]; exact R.pins p h

/-- a def that keeps its promise, at hand under its name -/
structure Cal (P : Program) (w : World) (K : PySem.W.Frag) (mg : Str → Option Value) (base : Heap) (T : Tab) (x : Str) (k : Nat) (m : Rho → FO) : Prop where
  ex : ∃ f fd ps, FnOk P w K mg base (L2.CX P w) k f fd ps (spM K T m) ∧ mg x = some (.ref f) ∧ PySem.W.keepIn K (.ref f) = true ∧ Binds K fd ps []
def call (m : Rho → FO) (as : List AD) (r : Rho) : EO Slot := match slots r as with
  | some ss => if ndOw as = true then (match m ss with
    | .ret s outs => (match put r as outs with
      | some r2 => .ok s r2
      | none => .bad)
    | .exc c fs outs => (match put r as outs with
      | some r2 => .exc c fs r2
      | none => .bad)
    | .bad => .bad) else .bad
  | none => .bad
def e_call (m : Rho → FO) (ma : EM (List AD)) : EM D := fun r => (ma r).bind fun as r => (call m as r).bind fun s r => match s with
  | .fz d => .ok d r
  | _ => .bad
/-- .. whose value is a new list -/
def l_call (m : Rho → FO) (ma : EM (List AD)) : EM (List D) := fun r => (ma r).bind fun as r => (call m as r).bind fun s r => match s with
  | .own ds => .ok ds r
  | _ => .bad
theorem WG.call {m : Rho → FO} {as : List AD} {r : Rho} {σ : L2.St} {H0 : Hp} {k : Slot → Rho → Prop} (h : WG K T F W (Ml.call m as r) σ H0 k) : ∃ ss, slots r as = some ss ∧ ndOw as = true ∧ ((∃ s outs r2, m ss = .ret s outs ∧ put r as outs = some r2 ∧ k s r2) ∨
    ∃ c fs outs r2, m ss = .exc c fs outs ∧ put r as outs = some r2 ∧ ∀ dd H' H0', Rel K T F σ H' H0' r2 → Sub H0 H0' → Pay K T H' H0' c fs dd → W (.ref (T.cls c)) dd σ H') := by
  unfold Ml.call at h
  cases hs : slots r as with
  | none => rw [hs] at h; exact h.elim
  | some ss =>
    rw [hs] at h
    by_cases nd : ndOw as = true
    · simp only [if_pos nd] at h
      refine ⟨ss, rfl, nd, ?_⟩
      cases hm : m ss with
      | ret s outs =>
        rw [hm] at h
        cases hp : put r as outs with
        | none => simp only [hp] at h; exact h.elim
        | some r2 => simp only [hp] at h; exact .inl ⟨s, outs, r2, rfl, hp, h⟩
      | exc c fs outs =>
        rw [hm] at h
        cases hp : put r as outs with
        | none => simp only [hp] at h; exact h.elim
        | some r2 => simp only [hp] at h; exact .inr ⟨c, fs, outs, r2, rfl, hp, h⟩
      | bad => rw [hm] at h; exact h.elim
    · simp only [if_neg nd] at h; exact h.elim
theorem sp_call {m : Rho → FO} {as : List AD} {σ : L2.St} {H H0 : Hp} {r : Rho} {vs : List V} {Q : VK} {k : Slot → Rho → Prop} (R : Rel K T F σ H H0 r) (ha : ArgsOk K T σ H0 vs as) (h : WG K T F W (Ml.call m as r) σ H0 k)
    (hk : ∀ s r2, k s r2 → ∀ v H' H0', Rel K T F (σ ++ [some v]) H' H0' (r2 ++ [s]) → Sub H0 H0' → Q v H') : spM K T m vs H Q (WE W σ) := by
  obtain ⟨ss, hs, nd, h⟩ := WG.call h
  obtain ⟨A, R0, post⟩ := call_ok R ha hs nd
  refine ⟨H0, ss, A, R0, ?_⟩
  rcases h with ⟨s, outs, r2, hm, hp, hk'⟩ | ⟨c, fs, outs, r2, hm, hp, hw⟩
  · rw [hm]
    intro v σ' H' H0' R' lo pn
    obtain ⟨R2, s2⟩ := post v σ' H' H0' s outs r2 R' lo pn hp
    exact hk s r2 hk' v H' H0' R2 s2
  · rw [hm]
    intro dd σ' H' H0' R' q
    obtain ⟨R2, s2⟩ := post .non σ' H' H0' (.fz .non) outs r2 (R'.pushFz .non) R'.len R'.pins hp
    exact hw dd H' H0' (R2.drop R2.lenL R.pinLt) s2 q
theorem Rel.popFz {σ : L2.St} {H H0 : Hp} {r : Rho} {v : V} {d : D} (R : Rel K T F (σ ++ [some v]) H H0 (r ++ [.fz d])) (pn : ∀ p ∈ F.R, p.1 < σ.length) : Rel K T F σ H H0 r ∧ Rep K T H0 v d := by
  refine ⟨R.drop R.lenL pn, ?_⟩
  have l := R.lenL
  obtain ⟨u, e, h⟩ := R.var (i := r.length) (d := d) (by rw [List.getElem?_append_right (Nat.le_refl _), Nat.sub_self]; rfl)
  rw [List.getElem?_append_right (by rw [l]; exact Nat.le_refl _), l, Nat.sub_self] at e
  cases e
  exact h
/-- .. whatever the value is -/
def v_call (m : Rho → FO) (ma : EM (List AD)) : EM Slot := fun r => (ma r).bind fun as r => call m as r
theorem me_call {x : Str} {k : Nat} {m : Rho → FO} {p : Pos} {e : Expr} {es : List Expr} {ma : EM (List AD)} (G : Cal X.prog X.w X.K X.mg X.base T x k m) (hr : Room k X.A) (tk : Takes X W) (ha : PA X (e :: es) (rdA X.K T F W ma)) (hg : Gl X x := by rfl)
    (hdb : (x == ("__debug__" : Str)) = false := by decide) (he : starEach (e :: es) X.env = (false, eval e X.env) :: starEach es X.env := by rfl) (hpl : (backTo pos (starEach es X.env)).any (·.1) = false := by rfl) :
    PE X (.Call (.Name x p) (e :: es) [] pos) (rdE X.K T F W (e_call m ma)) := by
  obtain ⟨f, fd, ps, Fn, hm, hk, hb⟩ := G.ex
  refine pe_weak (pe_callS (E := fun σ => WE W σ) Fn hr hg hm hk hb (fun σ => passAt tk σ) ha hdb he hpl) fun σ H Q ⟨r, H0, R, w⟩ => ?_
  refine ⟨r, H0, R, WG.bind w fun as r1 _ w1 vs H' H0' R' s' hv => ?_⟩
  refine sp_call R' hv ((WG.bind w1 fun s r2 _ w2 => w2).mono s') fun s r2 hk v H2 H02 R2 s2 => ?_
  cases s with
  | fz d => obtain ⟨R3, h3⟩ := R2.popFz R.pinLt; exact hk v H2 H02 R3 (s'.trans s2) h3
  | own ds => exact hk.elim
  | obj c ds => exact hk.elim
  | un => exact hk.elim
  | exv c ds => exact hk.elim
  | tr t => exact hk.elim
theorem mv_call {x : Str} {k : Nat} {m : Rho → FO} {p : Pos} {e : Expr} {es : List Expr} {ma : EM (List AD)} (G : Cal X.prog X.w X.K X.mg X.base T x k m) (hr : Room k X.A) (tk : Takes X W) (ha : PA X (e :: es) (rdA X.K T F W ma)) (hg : Gl X x := by rfl)
    (hdb : (x == ("__debug__" : Str)) = false := by decide) (he : starEach (e :: es) X.env = (false, eval e X.env) :: starEach es X.env := by rfl) (hpl : (backTo pos (starEach es X.env)).any (·.1) = false := by rfl) :
    PE X (.Call (.Name x p) (e :: es) [] pos) (rdV X.K T F W (v_call m ma)) := by
  obtain ⟨f, fd, ps, Fn, hm, hk, hb⟩ := G.ex
  refine pe_weak (pe_callS (E := fun σ => WE W σ) Fn hr hg hm hk hb (fun σ => passAt tk σ) ha hdb he hpl) fun σ H Q ⟨r, H0, R, w⟩ => ?_
  refine ⟨r, H0, R, WG.bind w fun as r1 _ w1 vs H' H0' R' s' hv => ?_⟩
  exact sp_call R' hv (w1.mono s') fun s r2 hk v H2 H02 R2 s2 => hk v H2 H02 R2 (s'.trans s2)
theorem ml_call {x : Str} {k : Nat} {m : Rho → FO} {p : Pos} {e : Expr} {es : List Expr} {ma : EM (List AD)} (G : Cal X.prog X.w X.K X.mg X.base T x k m) (hr : Room k X.A) (tk : Takes X W) (ha : PA X (e :: es) (rdA X.K T F W ma)) (hg : Gl X x := by rfl)
    (hdb : (x == ("__debug__" : Str)) = false := by decide) (he : starEach (e :: es) X.env = (false, eval e X.env) :: starEach es X.env := by rfl) (hpl : (backTo pos (starEach es X.env)).any (·.1) = false := by rfl) :
    PE X (.Call (.Name x p) (e :: es) [] pos) (rdL X.K T F W (l_call m ma)) := by
  obtain ⟨f, fd, ps, Fn, hm, hk, hb⟩ := G.ex
  refine pe_weak (pe_callS (E := fun σ => WE W σ) Fn hr hg hm hk hb (fun σ => passAt tk σ) ha hdb he hpl) fun σ H Q ⟨r, H0, R, w⟩ => ?_
  refine ⟨r, H0, R, WG.bind w fun as r1 _ w1 vs H' H0' R' s' hv => ?_⟩
  refine sp_call R' hv ((WG.bind w1 fun s r2 _ w2 => w2).mono s') fun s r2 hk v H2 H02 R2 s2 => ?_
  cases s with
  | own ds => exact hk v H2 H02 R2 (s'.trans s2)
  | fz d => exact hk.elim
  | obj c ds => exact hk.elim
  | un => exact hk.elim
  | exv c ds => exact hk.elim
  | tr t => exact hk.elim
end
end Ml
set_option Elab.async false
set_option linter.all false
set_option maxRecDepth 100000
set_option maxHeartbeats 4000000
/-! Ml6: arguments, tests, operators, lists of the frame's own. -/
namespace Ml
open PySem L2
section
variable {K : PySem.W.Frag} {T : Tab} {F : Fc} {W : WX} {X : Cx} {pos : Pos} {a b c : Expr} {ma mb mc : EM AD} {m : EM D} {ml : EM (List D)}
theorem WG.imp {α : Type} {x : EO α} {σ : L2.St} {H0 H1 : Hp} {k k' : α → Rho → Prop} (h : WG K T F W x σ H0 k) (s : Sub H0 H1) (f : ∀ a r, x = .ok a r → k a r → k' a r) : WG K T F W x σ H1 k' := by
  cases x with
  | ok a r => exact f a r rfl h
  | exc c fs r => exact fun dd H' H0' R s' p => h dd H' H0' R (s.trans s') p
  | bad => exact h
/-! ### arguments -/
theorem ma_nil : PA X [] (rdA K T F W a_nil) := pa_weak pa_nil fun σ H Q ⟨r, H0, R, w⟩ => w [] H H0 R (Sub.refl _) .nil
theorem ma_cons {e : Expr} {es : List Expr} {mas : EM (List AD)} (h : PE X e (rdP K T F W ma)) (hs : PA X es (rdA K T F W mas)) (hst : starEach (e :: es) X.env = (false, eval e X.env) :: starEach es X.env := by rfl) : PA X (e :: es) (rdA K T F W (a_cons ma mas)) :=
  pa_weak (pa_cons h hs hst) fun σ H Q ⟨r, H0, R, w⟩ => ⟨r, H0, R, WG.bind w fun x r1 _ w1 v H' H0' R' s hv => ⟨r1, H0', R', WG.bind (w1.mono s) fun xs r2 _ w2 vs H2 H02 R2 s2 hvs => w2 (v :: vs) H2 H02 R2 (s.trans s2) (.cons (hv.mono s2) hvs)⟩⟩
/-- a new list as data -/
theorem me_lof {e : Expr} (p : PE X e (rdL K T F W ml)) : PE X e (rdE K T F W (e_lst ml)) := pe_weak p fun σ H Q ⟨r, H0, R, w⟩ =>
  ⟨r, H0, R, WG.bind w fun ds r1 _ w1 v H' H0' R' s => by
    obtain ⟨H02, s2, R2, h2⟩ := R'.frz R'.lenL R.pinLt (t := .lst (ds.map .fz)) (d := .lst ds) rfl (by unfold O.data; rw [datas_fz]; rfl)
    exact w1 v H' H02 R2 (s.trans s2) h2⟩
/-- data of the arguments alone (no list of the frame's own) -/
def dats : List AD → Option (List D)
  | [] => some []
  | .d d :: as => (dats as).map (d :: ·)
  | .ow _ :: _ => none
theorem ArgsOk.dats {σ : L2.St} {H0 : Hp} : ∀ {vs : List V} {as : List AD} {ds : List D}, ArgsOk K T σ H0 vs as → Ml.dats as = some ds → Reps K T H0 vs ds
  | _, _, _, .nil, e => by cases e; exact .nil
  | _, _, _, .cons (a := .d d) (as := as) h t, e => by
    have e : (Ml.dats as).map (d :: ·) = some _ := e
    cases q : Ml.dats as with
    | none => rw [q] at e; cases e
    | some ds => rw [q] at e; cases e; exact .cons h (t.dats q)
  | _, _, _, .cons (a := .ow i) h t, e => by cases e
def SZ : Nat := 16777216
theorem SZ_eq : SZ = sizeLine := by rw [sizeLine_eq]; rfl
/-- (a, b), [a, b] -/
def e_tup (m : EM (List AD)) : EM D := fun r => (m r).bind fun as r => match dats as with
  | some ds => if ds.length ≤ SZ then .ok (.tup ds) r else .bad
  | none => .bad
def l_lst (m : EM (List AD)) : EM (List D) := fun r => (m r).bind fun as r => match dats as with
  | some ds => if ds.length ≤ SZ then .ok ds r else .bad
  | none => .bad
theorem me_tup {es : List Expr} {x1} {mas : EM (List AD)} (h : PA X es (rdA K T F W mas)) : PE X (.Tuple es x1 pos) (rdE K T F W (e_tup mas)) := pe_weak (pe_tup h) fun σ H Q ⟨r, H0, R, w⟩ => by
  refine ⟨r, H0, R, WG.bind w fun as r1 _ w1 vs H' H0' R' s hv => ?_⟩
  cases hd : dats as with
  | none => rw [hd] at w1; exact w1.elim
  | some ds =>
    rw [hd] at w1
    by_cases z : ds.length ≤ SZ
    · simp only [if_pos z] at w1
      have q := hv.dats hd
      refine ⟨by rw [q.length, ← SZ_eq]; exact z, fun p hp => ?_⟩
      obtain ⟨R2, s2, h2⟩ := R'.newOk (NewOk.tup R'.sub hp q)
      exact w1 _ _ _ R2 (s.trans s2) h2
    · simp only [if_neg z] at w1; exact w1.elim
theorem ml_lst {es : List Expr} {mas : EM (List AD)} (h : PA X es (rdA K T F W mas)) : PE X (.List es pos) (rdL K T F W (l_lst mas)) := pe_weak (pe_lst h) fun σ H Q ⟨r, H0, R, w⟩ => by
  refine ⟨r, H0, R, WG.bind w fun as r1 _ w1 vs H' H0' R' s hv => ?_⟩
  cases hd : dats as with
  | none => rw [hd] at w1; exact w1.elim
  | some ds =>
    rw [hd] at w1
    by_cases z : ds.length ≤ SZ
    · simp only [if_pos z] at w1
      have q := hv.dats hd
      refine ⟨by rw [q.length, ← SZ_eq]; exact z, fun p hp => ?_⟩
      exact w1 _ _ H0' (R'.newL ⟨p, vs, hp, rfl, rfl, q⟩) s
    · simp only [if_neg z] at w1; exact w1.elim
/-! ### tests -/
/-- a value's truth -/
def tru : D → Option Bool
  | .non => some false
  | .bl b => some b
  | .int i => some (i != 0)
  | .str s => if s.length ≤ SZ then some ((s.length : Int) != 0) else none
  | .tup ds => some (!ds.isEmpty)
  | .lst ds => some (!ds.isEmpty)
  | .ro _ ds => some (!ds.isEmpty)
  | .ins _ _ => none
def bol : D → Option Bool
  | .bl b => some b
  | _ => none
theorem Reps.isEmpty {H : Hp} {vs : List V} {ds : List D} (h : Reps K T H vs ds) : vs.isEmpty = ds.isEmpty := by cases h <;> rfl
theorem tru_ok' {H H0 : Hp} {v : V} {d : D} {k : Bool} (s : Sub H0 H) (h : RepE K T H H0 v d) (e : tru d = some k) : TruV K v H k := by
  rcases h with h | ⟨a, vs, ds, rfl, rfl, h1, h2⟩ | ⟨a, dx, c, vs, ds, rfl, rfl, _⟩
  · cases h with
    | non => cases e; rfl
    | bl b => cases e; rfl
    | int i => cases e; rfl
    | str x =>
      have e : (if x.length ≤ SZ then some ((x.length : Int) != 0) else none) = some k := e
      by_cases z : x.length ≤ SZ
      · rw [if_pos z] at e; cases e; exact ⟨by rw [← SZ_eq]; exact z, rfl⟩
      · rw [if_neg z] at e; cases e
    | tup h1 h2 => cases e; exact .inr (.inl ⟨_, SqT.of (s _ _ h1), by rw [h2.isEmpty]⟩)
    | lst h1 h2 => cases e; exact .inl ⟨_, SqL.of (s _ _ h1), by rw [h2.isEmpty]⟩
    | roT h1 h2 => cases e; exact .inr (.inl ⟨_, s.sqT h1, by rw [h2.isEmpty]⟩)
    | roL h1 h2 => cases e; exact .inl ⟨_, s.sqL h1, by rw [h2.isEmpty]⟩
    | ins _ _ _ => cases e
  · cases e; exact .inl ⟨_, SqL.of h1, by rw [h2.isEmpty]⟩
  · cases e
theorem rd_t1 {f : D → Option Bool} {R1 : V → Hp → (Bool → Hp → Prop) → Prop} (hf : ∀ H H0 v d k, Sub H0 H → RepE K T H H0 v d → f d = some k → ∀ Q : Bool → Hp → Prop, Q k H → R1 v H Q) {σ : L2.St} {H : Hp} {Q : Bool → Hp → Prop} (h : rdT K T F W (o1 f ma) σ H Q) : rdP K T F W ma σ H fun x H1 => R1 x H1 Q := by
  obtain ⟨r, H0, R, w⟩ := h
  refine ⟨r, H0, R, WG.bind w fun x r1 _ w1 v H' H0' R' s hv => ?_⟩
  cases hx : res r1 x with
  | none => rw [hx] at w1; exact w1.elim
  | some dx =>
    rw [hx] at w1
    obtain ⟨z, hz, w2⟩ := WG.opt w1
    exact hf H' H0' v dx z R'.sub (R'.res hv hx) hz Q (w2 H' H0' R' s)
/-- the truth of any value: if xs: -/
theorem mt_tru {e : Expr} (p : PE X e (rdP X.K T F W ma)) (he : ∀ whole, isTrue e X.env whole = (do let v ← whole; standAt e.pos; holding [v] (truthy v)) := by intro _; rfl) : PT X e (rdT X.K T F W (o1 tru ma)) :=
  pt_weak (pt_truth p he) fun σ H Q h => rd_t1 (R1 := fun x H Q => ∃ k, TruV X.K x H k ∧ Q k H) (fun H H0 v d k s r e Q q => ⟨k, tru_ok' s r e, q⟩) h
/-- an expression that gives True or False -/
def t_bol (m : EM D) : EM Bool := fun r => (m r).bind fun d r => EO.opt (bol d) r
theorem rd_bol {σ : L2.St} {H : Hp} {Q : Bool → Hp → Prop} (h : rdT K T F W (t_bol m) σ H Q) : rdE K T F W m σ H fun x H1 => ∃ k, x = .bl k ∧ Q k H1 := by
  obtain ⟨r, H0, R, w⟩ := h
  refine ⟨r, H0, R, WG.bind w fun d r1 _ w1 v H' H0' R' s hv => ?_⟩
  obtain ⟨z, hz, w2⟩ := WG.opt w1
  cases hv with
  | bl b => cases hz; exact ⟨_, rfl, w2 H' H0' R' s⟩
  | _ => cases hz
theorem mt_bol {e : Expr} (p : PE X e (rdE K T F W m)) (he : ∀ whole, isTrue e X.env whole = (do let v ← whole; standAt e.pos; holding [v] (truthy v)) := by intro _; rfl) : PT X e (rdT K T F W (t_bol m)) :=
  pt_weak (pt_val p he) fun σ H Q h => rd_bol h
def t_not (m : EM Bool) : EM Bool := fun r => (m r).bind fun k r => .ok (!k) r
def t_and (m n : EM Bool) : EM Bool := fun r => (m r).bind fun k r => if k = true then n r else .ok false r
def t_or (m n : EM Bool) : EM Bool := fun r => (m r).bind fun k r => if k = true then .ok true r else n r
variable {tm tn : EM Bool}
theorem mt_not {e : Expr} (p : PT X e (rdT K T F W tm)) : PT X (.UnaryOp .Not e pos) (rdT K T F W (t_not tm)) := pt_weak (pt_not p) fun σ H Q ⟨r, H0, R, w⟩ =>
  ⟨r, H0, R, WG.bind w fun k r1 _ w1 => w1⟩
theorem mt_cmp {op : CmpOp} {rr : R2} {f : D → D → Option D} (ho : OpR X (compareOp op) rr) (hm : OpM2 K T rr f) (ha : PE X a (rdP K T F W ma)) (hb : PE X b (rdP K T F W mb)) (hk : behindInMarks op b = false := by first | exact nomark _ | rfl) : PT X (.Compare a [op] [b] pos) (rdT K T F W (t_bol (o2 f ma mb))) :=
  pt_weak (pt_cmpR ho ha hb hk) fun σ H Q h => rd_o2 hm (rd_bol h)
theorem mw_and1 {e : Expr} (p : PT X e (rdT K T F W tm)) : PW X (.BoolOp .And [e] pos) (rdT K T F W tm) := pw_and1 p
theorem mw_or1 {e : Expr} (p : PT X e (rdT K T F W tm)) : PW X (.BoolOp .Or [e] pos) (rdT K T F W tm) := pw_or1 p
theorem pw_weak {e : Expr} {t t' : TT} (p : PW X e t) (h : ∀ σ H Q, t' σ H Q → t σ H Q) : PW X e t' := ⟨fun whole pins s σ H Q I q => p.run whole pins s σ H Q I (h σ H Q q)⟩
theorem mw_and {e f : Expr} {rest : List Expr} (p : PT X e (rdT K T F W tm)) (q : PW X (.BoolOp .And (f :: rest) pos) (rdT K T F W tn)) : PW X (.BoolOp .And (e :: f :: rest) pos) (rdT K T F W (t_and tm tn)) := pw_weak (pw_and p q) fun σ H Q ⟨r, H0, R, w⟩ => by
  refine ⟨r, H0, R, WG.bind w fun k r1 _ w1 H' H0' R' s => ?_⟩
  cases k with
  | true =>
    rw [if_pos rfl] at w1
    exact iteT ⟨r1, H0', R', w1.imp s fun k2 r2 _ w2 H2 H02 R2 s2 => w2 H2 H02 R2 (s.trans s2)⟩
  | false =>
    rw [if_neg Bool.false_ne_true] at w1
    exact iteF (w1 H' H0' R' s)
theorem mw_or {e f : Expr} {rest : List Expr} (p : PT X e (rdT K T F W tm)) (q : PW X (.BoolOp .Or (f :: rest) pos) (rdT K T F W tn)) : PW X (.BoolOp .Or (e :: f :: rest) pos) (rdT K T F W (t_or tm tn)) := pw_weak (pw_or p q) fun σ H Q ⟨r, H0, R, w⟩ => by
  refine ⟨r, H0, R, WG.bind w fun k r1 _ w1 H' H0' R' s => ?_⟩
  cases k with
  | true =>
    rw [if_pos rfl] at w1
    exact iteT (w1 H' H0' R' s)
  | false =>
    rw [if_neg Bool.false_ne_true] at w1
    exact iteF ⟨r1, H0', R', w1.imp s fun k2 r2 _ w2 H2 H02 R2 s2 => w2 H2 H02 R2 (s.trans s2)⟩
/-! ### the same as values -/
variable {m1 m2 : EM D}
def e_and (m n : EM D) : EM D := fun r => (m r).bind fun d r => match d with
  | .bl true => n r
  | .bl false => .ok (.bl false) r
  | _ => .bad
def e_or (m n : EM D) : EM D := fun r => (m r).bind fun d r => match d with
  | .bl true => .ok (.bl true) r
  | .bl false => n r
  | _ => .bad
def e_not (m : EM D) : EM D := fun r => (m r).bind fun d r => match d with
  | .bl b => .ok (.bl (!b)) r
  | _ => .bad
theorem me_one {op} (p : PE X a (rdE K T F W m)) : PE X (.BoolOp op [a] pos) (rdE K T F W m) := pe_one p
theorem me_and {rest : List Expr} (p : PE X a (rdE K T F W m1)) (q : PE X (.BoolOp .And (b :: rest) pos) (rdE K T F W m2)) : PE X (.BoolOp .And (a :: b :: rest) pos) (rdE K T F W (e_and m1 m2)) := pe_weak (pe_and p q) fun σ H Q ⟨r, H0, R, w⟩ => by
  refine ⟨r, H0, R, WG.bind w fun d r1 _ w1 v H' H0' R' s hv => ?_⟩
  cases hv with
  | bl k =>
    refine ⟨k, rfl, ?_⟩
    cases k with
    | true => exact iteT ⟨r1, H0', R', w1.imp s fun k2 r2 _ w2 v2 H2 H02 R2 s2 => w2 v2 H2 H02 R2 (s.trans s2)⟩
    | false => exact iteF (w1 _ H' H0' R' s (.bl _))
  | _ => exact w1.elim
theorem me_or {rest : List Expr} (p : PE X a (rdE K T F W m1)) (q : PE X (.BoolOp .Or (b :: rest) pos) (rdE K T F W m2)) : PE X (.BoolOp .Or (a :: b :: rest) pos) (rdE K T F W (e_or m1 m2)) := pe_weak (pe_or p q) fun σ H Q ⟨r, H0, R, w⟩ => by
  refine ⟨r, H0, R, WG.bind w fun d r1 _ w1 v H' H0' R' s hv => ?_⟩
  cases hv with
  | bl k =>
    refine ⟨k, rfl, ?_⟩
    cases k with
    | true => exact iteT (w1 _ H' H0' R' s (.bl _))
    | false => exact iteF ⟨r1, H0', R', w1.imp s fun k2 r2 _ w2 v2 H2 H02 R2 s2 => w2 v2 H2 H02 R2 (s.trans s2)⟩
  | _ => exact w1.elim
theorem me_not (p : PE X a (rdE K T F W m)) : PE X (.UnaryOp .Not a pos) (rdE K T F W (e_not m)) := pe_weak (pe_not p) fun σ H Q ⟨r, H0, R, w⟩ => by
  refine ⟨r, H0, R, WG.bind w fun d r1 _ w1 v H' H0' R' s hv => ?_⟩
  cases hv with
  | bl k => exact ⟨k, rfl, w1 _ H' H0' R' s (.bl _)⟩
  | _ => exact w1.elim
def e_if (c : EM Bool) (m n : EM D) : EM D := fun r => (c r).bind fun k r => if k = true then m r else n r
theorem me_if (p : PT X c (rdT K T F W tm)) (pa : PE X a (rdE K T F W m1)) (pb : PE X b (rdE K T F W m2)) : PE X (.IfExp c a b pos) (rdE K T F W (e_if tm m1 m2)) := pe_weak (pe_ifExp p pa pb) fun σ H Q ⟨r, H0, R, w⟩ => by
  refine ⟨r, H0, R, WG.bind w fun k r1 _ w1 H' H0' R' s => ?_⟩
  cases k with
  | true =>
    rw [if_pos rfl] at w1
    exact iteT ⟨r1, H0', R', w1.imp s fun k2 r2 _ w2 v2 H2 H02 R2 s2 => w2 v2 H2 H02 R2 (s.trans s2)⟩
  | false =>
    rw [if_neg Bool.false_ne_true] at w1
    exact iteF ⟨r1, H0', R', w1.imp s fun k2 r2 _ w2 v2 H2 H02 R2 s2 => w2 v2 H2 H02 R2 (s.trans s2)⟩
/-! ### operators -/
theorem me_bin {op : Operator} {rr : R2} {f : D → D → Option D} (ho : OpR X (binaryOp op) rr) (hm : OpM2 K T rr f) (ha : PE X a (rdP K T F W ma)) (hb : PE X b (rdP K T F W mb)) : PE X (.BinOp a op b pos) (rdE K T F W (o2 f ma mb)) := pe_weak (pe_op ho ha hb) fun _ _ _ => rd_o2 hm
theorem ml_bin {op : Operator} {rr : R2} {f : D → D → Option (List D)} (ho : OpR X (binaryOp op) rr) (hm : OpL2 K T rr f) (ha : PE X a (rdP K T F W ma)) (hb : PE X b (rdP K T F W mb)) : PE X (.BinOp a op b pos) (rdL K T F W (o2 f ma mb)) := pe_weak (pe_op ho ha hb) fun _ _ _ => rd_l2 hm
theorem me_un {op : UnaryOp} {rr : V → Hp → VK → Prop} {f : D → Option D} (ho : UnR X (unaryOp op) rr) (hm : OpM1 K T rr f) (ha : PE X a (rdP K T F W ma)) : PE X (.UnaryOp op a pos) (rdE K T F W (o1 f ma)) := pe_weak (pe_un ho ha) fun _ _ _ => rd_o1 hm
theorem me_cmp {op : CmpOp} {rr : R2} {f : D → D → Option D} (ho : OpR X (compareOp op) rr) (hm : OpM2 K T rr f) (ha : PE X a (rdP K T F W ma)) (hb : PE X b (rdP K T F W mb)) (hk : behindInMarks op b = false := by first | exact nomark _ | rfl) : PE X (.Compare a [op] [b] pos) (rdE K T F W (o2 f ma mb)) :=
  pe_weak (pe_cmpR ho ha hb hk) fun _ _ _ => rd_o2 hm
theorem me_sub {rr : R2} {f : D → D → Option D} (ho : IxR X rr) (hm : OpM2 K T rr f) (ha : PE X a (rdP K T F W ma)) (hb : PE X b (rdP K T F W mb)) (hk : PlainIx b := by exact fun _ _ => rfl) : PE X (.Subscript a b pos) (rdE K T F W (o2 f ma mb)) := pe_weak (pe_ix ho ha hb hk) fun _ _ _ => rd_o2 hm
/-- a < b < c -/
def e_chain (f g : D → D → Option D) (ma mb mc : EM AD) : EM D := fun r => (ma r).bind fun x r => (mb r).bind fun y r => match res r x, res r y with
  | some dx, some dy => (match f dx dy with
    | some (.bl true) => (mc r).bind fun z r => (match res r y, res r z with
      | some dy, some dz => EO.opt (g dy dz) r
      | _, _ => .bad)
    | some (.bl false) => .ok (.bl false) r
    | _ => .bad)
  | _, _ => .bad
/-- an operator whose answer makes nothing -/
def OpS2 (K : PySem.W.Frag) (T : Tab) (rr : R2) (f : D → D → Option D) : Prop := ∀ x y dx dy z H H0, Sub H0 H → RepE K T H H0 x dx → RepE K T H H0 y dy → f dx dy = some z → ∀ Q : VK, (∀ v, (∀ H, Rep K T H v z) → Q v H) → rr x y H Q
theorem OpS2.op {rr : R2} {f : D → D → Option D} (h : OpS2 K T rr f) : OpM2 K T rr f := fun x y dx dy z H H0 s h1 h2 e Q q => h x y dx dy z H H0 s h1 h2 e Q fun v hv => q v H H0 (.sc (hv _))
theorem rd_chain {rr rr' : R2} {f g : D → D → Option D} (hf : OpS2 K T rr f) (hg : OpM2 K T rr' g) {σ : L2.St} {H : Hp} {Q : VK} (h : rdE K T F W (e_chain f g ma mb mc) σ H Q) : tChain rr rr' (rdP K T F W ma) (rdP K T F W mb) (rdP K T F W mc) σ H Q := by
  obtain ⟨r, H0, R, w⟩ := h
  refine ⟨r, H0, R, WG.bind w fun x r1 _ w1 v H' H0' R' s hv => ⟨r1, H0', R', WG.bind (w1.mono s) fun y r2 _ w2 u H2 H02 R2 s2 hu => ?_⟩⟩
  cases hx : res r2 x with
  | none => simp only [hx] at w2; exact w2.elim
  | some dx =>
    cases hy : res r2 y with
    | none => simp only [hx, hy] at w2; exact w2.elim
    | some dy =>
      simp only [hx, hy] at w2
      cases hfz : f dx dy with
      | none => rw [hfz] at w2; exact w2.elim
      | some z =>
        rw [hfz] at w2
        refine hf v u dx dy z H2 H02 R2.sub (R2.res (hv.mono s2) hx) (R2.res hu hy) hfz _ fun k hk => ?_
        cases z with
        | bl k2 =>
          cases hk H2 with
          | bl k2 =>
            refine ⟨k2, rfl, ?_⟩
            cases k2 with
            | true =>
              refine iteT ⟨r2, H02, R2, WG.bind (w2.mono s2) fun z r3 _ w3 zv H3 H03 R3 s3 hz => ?_⟩
              cases hy3 : res r3 y with
              | none => simp only [hy3] at w3; exact w3.elim
              | some dy3 =>
                cases hz3 : res r3 z with
                | none => simp only [hy3, hz3] at w3; exact w3.elim
                | some dz =>
                  simp only [hy3, hz3] at w3
                  obtain ⟨zz, hgz, w4⟩ := WG.opt w3
                  refine hg u zv dy3 dz zz H3 H03 R3.sub (R3.res (hu.mono s3) hy3) (R3.res hz hz3) hgz Q fun v' H4 H04 n => ?_
                  obtain ⟨R4, s4, h4⟩ := R3.newOk n
                  exact w4 v' H4 H04 R4 (((s.trans s2).trans s3).trans s4) h4
            | false => exact iteF (w2 _ H2 H02 R2 (s.trans s2) (.bl _))
        | _ => exact w2.elim
theorem me_chain {op op' : CmpOp} {rr rr' : R2} {f g : D → D → Option D} (ho : OpR X (compareOp op) rr) (ho' : OpR X (compareOp op') rr') (hf : OpS2 K T rr f) (hg : OpM2 K T rr' g) (ha : PE X a (rdP K T F W ma)) (hb : PE X b (rdP K T F W mb)) (hc : PE X c (rdP K T F W mc)) (hm : lastMarks [op, op'] [b, c] = false := by rfl) :
    PE X (.Compare a [op, op'] [b, c] pos) (rdE K T F W (e_chain f g ma mb mc)) := pe_weak (pe_chain ho ho' ha hb hc hm) fun _ _ _ => rd_chain hf hg
theorem mt_chain {op op' : CmpOp} {rr rr' : R2} {f g : D → D → Option D} (ho : OpR X (compareOp op) rr) (ho' : OpR X (compareOp op') rr') (hf : OpS2 K T rr f) (hg : OpM2 K T rr' g) (ha : PE X a (rdP K T F W ma)) (hb : PE X b (rdP K T F W mb)) (hc : PE X c (rdP K T F W mc)) (hm : lastMarks [op, op'] [b, c] = false := by rfl) :
    PT X (.Compare a [op, op'] [b, c] pos) (rdT K T F W (t_bol (e_chain f g ma mb mc))) := pt_weak (pt_chain ho ho' ha hb hc hm) fun σ H Q h => rd_chain hf hg (rd_bol h)
/-! ### calls of built-ins -/
theorem me_blt {id : String} {rr : List V → Hp → VK → Prop} {f : List D → Option D} {x : Str} {p : Pos} {e : Expr} {es : List Expr} {mas : EM (List AD)} (hc : CallR X (.builtin id) rr) (hm' : OpMs K T rr f) (hm : X.mg x = none) (hv : bootBuiltins x = some (.builtin id)) (ha : PA X (e :: es) (rdA K T F W mas)) (hg : Gl X x := by rfl) (hn : x ≠ "__name__" := by decide) (hdb : (x == ("__debug__" : Str)) = false := by decide)
    (he : starEach (e :: es) X.env = (false, eval e X.env) :: starEach es X.env := by rfl) (hpl : (backTo pos (starEach es X.env)).any (·.1) = false := by rfl) : PE X (.Call (.Name x p) (e :: es) [] pos) (rdE K T F W (os f mas)) :=
  pe_weak (pe_callB hc hg hm hv ha hn hdb he hpl) fun _ _ _ => rd_os hm'
theorem me_typ {id : String} {rr : List V → Hp → VK → Prop} {f : List D → Option D} {x : Str} {p : Pos} {e : Expr} {es : List Expr} {mas : EM (List AD)} (hc : CallR X (.type id) rr) (hm' : OpMs K T rr f) (hm : X.mg x = none) (hv : bootBuiltins x = some (.type id)) (ha : PA X (e :: es) (rdA K T F W mas)) (hg : Gl X x := by rfl) (hn : x ≠ "__name__" := by decide) (hdb : (x == ("__debug__" : Str)) = false := by decide)
    (he : starEach (e :: es) X.env = (false, eval e X.env) :: starEach es X.env := by rfl) (hpl : (backTo pos (starEach es X.env)).any (·.1) = false := by rfl) : PE X (.Call (.Name x p) (e :: es) [] pos) (rdE K T F W (os f mas)) :=
  pe_weak (pe_callTy hc hg hm hv ha hn hdb he hpl) fun _ _ _ => rd_os hm'
theorem ml_blt {id : String} {rr : List V → Hp → VK → Prop} {f : List D → Option (List D)} {x : Str} {p : Pos} {e : Expr} {es : List Expr} {mas : EM (List AD)} (hc : CallR X (.builtin id) rr) (hm' : OpLs K T rr f) (hm : X.mg x = none) (hv : bootBuiltins x = some (.builtin id)) (ha : PA X (e :: es) (rdA K T F W mas)) (hg : Gl X x := by rfl) (hn : x ≠ "__name__" := by decide) (hdb : (x == ("__debug__" : Str)) = false := by decide)
    (he : starEach (e :: es) X.env = (false, eval e X.env) :: starEach es X.env := by rfl) (hpl : (backTo pos (starEach es X.env)).any (·.1) = false := by rfl) : PE X (.Call (.Name x p) (e :: es) [] pos) (rdL K T F W (os f mas)) :=
  pe_weak (pe_callB hc hg hm hv ha hn hdb he hpl) fun _ _ _ => rd_ls hm'
theorem ml_typ {id : String} {rr : List V → Hp → VK → Prop} {f : List D → Option (List D)} {x : Str} {p : Pos} {e : Expr} {es : List Expr} {mas : EM (List AD)} (hc : CallR X (.type id) rr) (hm' : OpLs K T rr f) (hm : X.mg x = none) (hv : bootBuiltins x = some (.type id)) (ha : PA X (e :: es) (rdA K T F W mas)) (hg : Gl X x := by rfl) (hn : x ≠ "__name__" := by decide) (hdb : (x == ("__debug__" : Str)) = false := by decide)
    (he : starEach (e :: es) X.env = (false, eval e X.env) :: starEach es X.env := by rfl) (hpl : (backTo pos (starEach es X.env)).any (·.1) = false := by rfl) : PE X (.Call (.Name x p) (e :: es) [] pos) (rdL K T F W (os f mas)) :=
  pe_weak (pe_callTy hc hg hm hv ha hn hdb he hpl) fun _ _ _ => rd_ls hm'
/-- x[i] = e of such a list -/
def s_put (k : Nat) (mi : EM D) (mv : EM D) : SM := fun r => (mv r).seq fun d r => (p_ow k r).seq fun _ r => (mi r).seq fun i r => match r[k]?, i with
  | some (.own ds), .int n => (match ixN ds.length n with
    | some j => .nx (r.set k (.own (ds.set j d)))
    | none => .bad)
  | _, _ => .bad
theorem WS.ow {k : Nat} {r : Rho} {f : AD → Rho → SO} {H0 : Hp} {E : Ends} (h : WS K T F W ((p_ow k r).seq f) H0 E) : ∃ s, r[k]? = some s ∧ isOwn s = true ∧ WS K T F W (f (.ow k) r) H0 E := by
  unfold p_ow at h
  cases e : r[k]? with
  | none => rw [e] at h; exact h.elim
  | some s =>
    rw [e] at h
    by_cases o : isOwn s = true
    · simp only [if_pos o] at h; exact ⟨s, rfl, o, h⟩
    · simp only [if_neg o] at h; exact h.elim
theorem ms_put (k : Nat) {o i e : Expr} {mi mv : EM D} {tpos : Pos} (he : PE X e (rdE X.K T F W mv)) (ho : PE X o (tVar k)) (hi : PE X i (rdE X.K T F W mi))
    (hg : PG X (.Subscript o i tpos) (gSub (tVar k) (rdE X.K T F W mi) rSetL) := by exact pg_sub (by assumption) (by assumption) set_list) (hs : swapsWithSole [.Subscript o i tpos] e pos.line X.env = pure false := by rfl) (hw : swappedStores [.Subscript o i tpos] e X.env = pure none := by rfl)
    (h1 : (assignEach [.Subscript o i tpos] X.env).map (·.2) = [assign (.Subscript o i tpos) X.env] := by rfl) : PS X (.Assign [.Subscript o i tpos] e pos) (rdS X.K T F W (s_put k mi mv)) := ps_weak (ps_asg he hg hs hw h1) fun E σ H ⟨r, H0, R, w⟩ => by
  refine ⟨r, H0, R, WS.of w fun d r1 _ w1 v H' H0' R' s hv => ?_⟩
  obtain ⟨sl, e1, o1, w2⟩ := WS.ow w1
  obtain ⟨a, u, q1, _, _⟩ := R'.ownAt e1 o1
  refine ⟨_, q1, r1, H0', R', WS.of (w2.mono s) fun iv r2 _ w3 v2 H2 H02 R2 s2 hv2 => ?_⟩
  cases e2 : r2[k]? with
  | none => simp only [e2] at w3; exact w3.elim
  | some t =>
    cases t with
    | own ds =>
      cases hv2 with
      | int n =>
        simp only [e2] at w3
        obtain ⟨a', vs, b1, b2, b3, b4⟩ := R2.own e2
        have z := q1.symm.trans b1
        cases z
        cases hx : ixN ds.length n with
        | none => simp only [hx] at w3; exact w3.elim
        | some j =>
          simp only [hx] at w3
          refine ⟨a, vs, n, j, rfl, rfl, b2, by rw [b4.length]; exact hx, ?_⟩
          exact w3 σ _ H02 (R2.change e2 q1 (Reps.set (hv.mono s2) j b4)) (s.trans s2 |>.trans (Sub.refl _) |> fun z => by first | exact z | exact s2)
      | _ => simp only [e2] at w3; exact w3.elim
    | _ => simp only [e2] at w3; exact w3.elim
theorem WG.ow {α : Type} {k : Nat} {r : Rho} {f : AD → Rho → EO α} {σ : L2.St} {H0 : Hp} {q : α → Rho → Prop} (h : WG K T F W ((p_ow k r).bind f) σ H0 q) : ∃ s, r[k]? = some s ∧ isOwn s = true ∧ WG K T F W (f (.ow k) r) σ H0 q := by
  unfold p_ow at h
  cases e : r[k]? with
  | none => rw [e] at h; exact h.elim
  | some s =>
    rw [e] at h
    by_cases o : isOwn s = true
    · simp only [if_pos o] at h; exact ⟨s, rfl, o, h⟩
    · simp only [if_neg o] at h; exact h.elim
/-- a method of lists called on such a name: what it reads and leaves -/
def lmAt (k : Nat) (f : List D → List D → Option (D × List D)) (xs : List D) : EM D := fun r => match r[k]? with
  | some (.own ds) => (match f ds xs with
    | some (z, ds') => .ok z (r.set k (.own ds'))
    | none => .bad)
  | _ => .bad
def e_lm (k : Nat) (f : List D → List D → Option (D × List D)) (m : EM (List AD)) : EM D := fun r => match r[k]? with
  | some (.own _) => (m r).bind fun as r => (match dats as with
    | some xs => lmAt k f xs r
    | none => .bad)
  | _ => .bad
def OpLm (K : PySem.W.Frag) (T : Tab) (rr : V → List V → Hp → VK → Prop) (f : List D → List D → Option (D × List D)) : Prop := ∀ a vs ds xs es z ds' H H0, Sub H0 H → H a = some (.lst vs) → H0 a = none → Reps K T H0 vs ds → Reps K T H0 xs es → f ds es = some (z, ds') →
  ∀ Q : VK, (∀ v vs', Rep K T H0 v z → Reps K T H0 vs' ds' → Q v (upd H a (.lst vs'))) → rr (.ref a) xs H Q
theorem rd_lmAt {k : Nat} {f : List D → List D → Option (D × List D)} {rr : V → List V → Hp → VK → Prop} {es : List D} {xs : List V} (hm : OpLm K T rr f) {σ : L2.St} {H H0 : Hp} {r : Rho} {Q : VK} {kk : D → Rho → Prop} {a : Addr} (R : Rel K T F σ H H0 r) (q1 : σ[k]? = some (some (.ref a)))
    (hx : Reps K T H0 xs es) {H00 : Hp} (w : WG K T F W (lmAt k f es r) σ H00 kk) (hk : ∀ d r', kk d r' → ∀ v H', Rel K T F σ H' H0 r' → Rep K T H0 v d → Q v H') : rr (.ref a) xs H Q := by
  unfold lmAt at w
  cases e2 : r[k]? with
  | none => rw [e2] at w; exact w.elim
  | some t =>
    cases t with
    | own ds =>
      rw [e2] at w
      cases hf : f ds es with
      | none => simp only [hf] at w; exact w.elim
      | some p =>
        obtain ⟨z, ds'⟩ := p
        simp only [hf] at w
        obtain ⟨a', ws, b1, b2, b3, b4⟩ := R.own e2
        have y := q1.symm.trans b1
        cases y
        exact hm a ws ds xs es z ds' H H0 R.sub b2 b3 b4 hx hf Q fun v vs' hz hvs' => hk _ _ w v _ (R.change e2 q1 hvs') hz
    | _ => rw [e2] at w; exact w.elim
theorem rd_lm {k : Nat} {f : List D → List D → Option (D × List D)} {rr : V → List V → Hp → VK → Prop} {mas : EM (List AD)} (hm : OpLm K T rr f) {σ : L2.St} {H : Hp} {Q : VK} (h : rdE K T F W (e_lm k f mas) σ H Q) :
    tBM K "list" rr (tVar k) (rdA K T F W mas) σ H Q := by
  obtain ⟨r, H0, R, w⟩ := h
  unfold e_lm at w
  cases e1 : r[k]? with
  | none => rw [e1] at w; exact w.elim
  | some t =>
    cases t with
    | own ds0 =>
      rw [e1] at w
      obtain ⟨a, vs0, q1, q2, q3, _⟩ := R.own e1
      refine ⟨_, q1, .inl ⟨rfl, _, SqL.of q2⟩, r, H0, R, WG.bind w fun as r2 _ w3 vs H2 H02 R2 s2 hvs => ?_⟩
      cases hd : dats as with
      | none => rw [hd] at w3; exact w3.elim
      | some xs =>
        rw [hd] at w3
        exact rd_lmAt hm R2 q1 (hvs.dats hd) w3 fun d r' hk v H' R' hv => hk v H' H02 R' s2 hv
    | _ => rw [e1] at w; exact w.elim
theorem rd_lm0 {k : Nat} {f : List D → List D → Option (D × List D)} {rr : V → List V → Hp → VK → Prop} (hm : OpLm K T rr f) {σ : L2.St} {H : Hp} {Q : VK} (h : rdE K T F W (lmAt k f []) σ H Q) : tBM0 K "list" rr (tVar k) σ H Q := by
  obtain ⟨r, H0, R, w⟩ := h
  cases e1 : r[k]? with
  | none => unfold lmAt at w; rw [e1] at w; exact w.elim
  | some t =>
    cases t with
    | own ds0 =>
      obtain ⟨a, vs0, q1, q2, q3, _⟩ := R.own e1
      exact ⟨_, q1, .inl ⟨rfl, _, SqL.of q2⟩, rd_lmAt hm R q1 .nil w fun d r' hk v H' R' hv => hk v H' H0 R' (Sub.refl _) hv⟩
    | _ => unfold lmAt at w; rw [e1] at w; exact w.elim
end
end Ml
set_option Elab.async false
set_option linter.all false
set_option maxRecDepth 100000
set_option maxHeartbeats 4000000
/-! Ml7: operators on data. -/
namespace Ml
open PySem L2
section
variable {K : PySem.W.Frag} {T : Tab} {F : Fc} {W : WX} {X : Cx} {H H0 : Hp} {v : V}
/-! ### reading operands -/
theorem RepE.non' (h : RepE K T H H0 v .non) : v = .non := by
  rcases h with h | ⟨_, _, _, _, e, _⟩ | ⟨_, _, _, _, _, _, e, _⟩
  · cases h; rfl
  · cases e
  · cases e
theorem RepE.bl' {b : Bool} (h : RepE K T H H0 v (.bl b)) : v = .bl b := by
  rcases h with h | ⟨_, _, _, _, e, _⟩ | ⟨_, _, _, _, _, _, e, _⟩
  · cases h; rfl
  · cases e
  · cases e
theorem RepE.int' {i : Int} (h : RepE K T H H0 v (.int i)) : v = .int i := by
  rcases h with h | ⟨_, _, _, _, e, _⟩ | ⟨_, _, _, _, _, _, e, _⟩
  · cases h; rfl
  · cases e
  · cases e
theorem RepE.str' {x : Str} (h : RepE K T H H0 v (.str x)) : v = .str x := by
  rcases h with h | ⟨_, _, _, _, e, _⟩ | ⟨_, _, _, _, _, _, e, _⟩
  · cases h; rfl
  · cases e
  · cases e
theorem RepE.tup' {ds : List D} (h : RepE K T H H0 v (.tup ds)) : ∃ a vs, v = .ref a ∧ H0 a = some (.tup vs) ∧ Reps K T H0 vs ds := by
  rcases h with h | ⟨_, _, _, _, e, _⟩ | ⟨_, _, _, _, _, _, e, _⟩
  · cases h with | tup h1 h2 => exact ⟨_, _, rfl, h1, h2⟩
  · cases e
  · cases e
theorem RepE.lst' (s : Sub H0 H) {ds : List D} (h : RepE K T H H0 v (.lst ds)) : ∃ a vs, v = .ref a ∧ H a = some (.lst vs) ∧ Reps K T H0 vs ds := by
  rcases h with h | ⟨a, vs, es, rfl, e, h1, h2⟩ | ⟨_, _, _, _, _, _, e, _⟩
  · cases h with | lst h1 h2 => exact ⟨_, _, rfl, s _ _ h1, h2⟩
  · cases e; exact ⟨a, vs, rfl, h1, h2⟩
  · cases e
/-- a list (false), a tuple (true), as it is read -/
def seqOf : D → Option (Bool × List D)
  | .tup ds => some (true, ds)
  | .lst ds => some (false, ds)
  | .ro b ds => some (b, ds)
  | _ => none
theorem RepE.seq (s : Sub H0 H) {d : D} {b : Bool} {ds : List D} (h : RepE K T H H0 v d) (e : seqOf d = some (b, ds)) : ∃ a vs, v = .ref a ∧ (if b = true then SqT K H a vs else SqL K H a vs) ∧ Reps K T H0 vs ds := by
  cases d with
  | tup es => cases e; obtain ⟨a, vs, rfl, h1, h2⟩ := h.tup'; exact ⟨a, vs, rfl, iteT (SqT.of (s _ _ h1)), h2⟩
  | lst es => cases e; obtain ⟨a, vs, rfl, h1, h2⟩ := h.lst' s; exact ⟨a, vs, rfl, iteF (SqL.of h1), h2⟩
  | ro c es =>
    cases e
    rcases h with h | ⟨_, _, _, _, e, _⟩ | ⟨_, _, _, _, _, _, e, _⟩
    · cases h with
      | roT h1 h2 => exact ⟨_, _, rfl, iteT (s.sqT h1), h2⟩
      | roL h1 h2 => exact ⟨_, _, rfl, iteF (s.sqL h1), h2⟩
    · cases e
    · cases e
  | _ => cases e
theorem RepEs.one {vs : List V} {d : D} (h : RepEs K T H H0 vs [d]) : ∃ v, vs = [v] ∧ RepE K T H H0 v d := by
  cases h with | cons h1 h2 => cases h2; exact ⟨_, rfl, h1⟩
theorem RepEs.two {vs : List V} {d e : D} (h : RepEs K T H H0 vs [d, e]) : ∃ v u, vs = [v, u] ∧ RepE K T H H0 v d ∧ RepE K T H H0 u e := by
  cases h with | cons h1 h2 => cases h2 with | cons h3 h4 => cases h4; exact ⟨_, _, rfl, h1, h3⟩
theorem Reps.ints : ∀ {vs : List V} {ns : List Int}, Reps K T H0 vs (ns.map D.int) → vs = ns.map V.int
  | _, [], .nil => rfl
  | _, n :: ns, .cons h t => by cases h; rw [Reps.ints t]; rfl
theorem Reps.strs : ∀ {vs : List V} {ns : List Str}, Reps K T H0 vs (ns.map D.str) → vs = ns.map V.str
  | _, [], .nil => rfl
  | _, n :: ns, .cons h t => by cases h; rw [Reps.strs t]; rfl
def intsOf : List D → Option (List Int)
  | [] => some []
  | .int i :: ds => (intsOf ds).map (i :: ·)
  | _ => none
def strsOf : List D → Option (List Str)
  | [] => some []
  | .str i :: ds => (strsOf ds).map (i :: ·)
  | _ => none
theorem intsOf_eq : ∀ {ds : List D} {ns : List Int}, intsOf ds = some ns → ds = ns.map D.int
  | [], ns, h => by cases h; rfl
  | d :: ds, ns, h => by
    cases d with
    | int i =>
      have h : (intsOf ds).map (i :: ·) = some ns := h
      cases q : intsOf ds with
      | none => rw [q] at h; cases h
      | some ms => rw [q] at h; cases h; rw [intsOf_eq q]; rfl
    | _ => cases h
theorem strsOf_eq : ∀ {ds : List D} {ns : List Str}, strsOf ds = some ns → ds = ns.map D.str
  | [], ns, h => by cases h; rfl
  | d :: ds, ns, h => by
    cases d with
    | str i =>
      have h : (strsOf ds).map (i :: ·) = some ns := h
      cases q : strsOf ds with
      | none => rw [q] at h; cases h
      | some ms => rw [q] at h; cases h; rw [strsOf_eq q]; rfl
    | _ => cases h
theorem intsOf_map (ns : List Int) : intsOf (ns.map D.int) = some ns := by
  induction ns with
  | nil => rfl
  | cons n ns ih => show (intsOf (ns.map D.int)).map (n :: ·) = _; rw [ih]; rfl
theorem strsOf_map (ns : List Str) : strsOf (ns.map D.str) = some ns := by
  induction ns with
  | nil => rfl
  | cons n ns ih => show (strsOf (ns.map D.str)).map (n :: ·) = _; rw [ih]; rfl

/-! ### arithmetic -/
def o_add : D → D → Option D
  | .int i, .int j => some (.int (i + j))
  | .str s, .str t => if s.length + t.length ≤ SZ then some (.str (s ++ t)) else none
  | .lst s, .lst t => if s.length + t.length ≤ SZ then some (.lst (s ++ t)) else none
  | .tup s, .tup t => if s.length + t.length ≤ SZ ∧ s ≠ [] ∧ t ≠ [] then some (.tup (s ++ t)) else none
  | _, _ => none
def rAddA (K : PySem.W.Frag) : R2 := fun x y H Q => (∃ i j, x = .int i ∧ y = .int j ∧ Q (.int (i + j)) H) ∨ (∃ i j, x = .str i ∧ y = .str j ∧ i.length + j.length ≤ sizeLine ∧ Q (.str (i ++ j)) H) ∨ rCat x y H Q ∨ rCatT K x y H Q
theorem op_addA : OpR X (binaryOp .Add) (rAddA X.K) := OpR.or (op_add (X := X)) (OpR.or op_add_str (OpR.or op_cat op_catT))
theorem m_add : OpM2 K T (rAddA K) o_add := fun x y dx dy z H H0 s h1 h2 e Q q => by
  unfold o_add at e
  split at e
  · cases e; exact .inl ⟨_, _, h1.int', h2.int', q _ _ _ (.sc (.int _))⟩
  · split at e
    · rename_i hz; cases e; exact .inr (.inl ⟨_, _, h1.str', h2.str', by rw [← SZ_eq]; exact hz, q _ _ _ (.sc (.str _))⟩)
    · cases e
  · split at e
    · rename_i hz; cases e
      obtain ⟨a, vs, rfl, a1, a2⟩ := h1.lst' s
      obtain ⟨b, ws, rfl, b1, b2⟩ := h2.lst' s
      exact .inr (.inr (.inl ⟨a, b, vs, ws, rfl, rfl, a1, b1, by rw [← SZ_eq, a2.length, b2.length]; exact hz, fun p hp => q _ _ _ (.lst s hp (a2.append b2))⟩))
    · cases e
  · split at e
    · rename_i hz; cases e
      obtain ⟨a, vs, rfl, a1, a2⟩ := h1.tup'
      obtain ⟨b, ws, rfl, b1, b2⟩ := h2.tup'
      refine .inr (.inr (.inr ⟨a, b, vs, ws, rfl, rfl, SqT.of (s _ _ a1), SqT.of (s _ _ b1), fun z => hz.2.1 ?_, by rw [← SZ_eq, a2.length, b2.length]; exact hz.1, fun z => absurd ?_ hz.2.2, fun _ p hp => q _ _ _ (.tup s hp (a2.append b2))⟩))
      · subst z; cases a2; rfl
      · subst z; cases b2; rfl
    · cases e
  · cases e
def o_sub : D → D → Option D
  | .int i, .int j => some (.int (i - j))
  | _, _ => none
theorem m_ints {g : Int → Int → V} {f : D → D → Option D} {C : Int → Int → Prop} (hf : ∀ dx dy z, f dx dy = some z → ∃ i j, dx = .int i ∧ dy = .int j ∧ C i j ∧ ∀ H, Rep K T H (g i j) z) : OpS2 K T (rI C g) f := fun x y dx dy z H H0 s h1 h2 e Q q => by
  obtain ⟨i, j, rfl, rfl, hc, hz⟩ := hf dx dy z e
  exact ⟨i, j, h1.int', h2.int', hc, q _ hz⟩
theorem m_ints0 {g : Int → Int → V} {f : D → D → Option D} (hf : ∀ dx dy z, f dx dy = some z → ∃ i j, dx = .int i ∧ dy = .int j ∧ ∀ H, Rep K T H (g i j) z) : OpS2 K T (rI0 g) f := fun x y dx dy z H H0 s h1 h2 e Q q => by
  obtain ⟨i, j, rfl, rfl, hz⟩ := hf dx dy z e
  exact ⟨i, j, h1.int', h2.int', q _ hz⟩
theorem m_sub : OpM2 K T (rI0 fun i j => .int (i - j)) o_sub := OpS2.op (m_ints0 fun dx dy z e => by
  unfold o_sub at e; split at e
  · cases e; exact ⟨_, _, rfl, rfl, fun _ => .int _⟩
  · cases e)
/-- a list k times -/
def repD (ds : List D) (k : Nat) : List D := (List.replicate k ds).flatten
theorem Reps.rep {vs : List V} {ds : List D} (h : Reps K T H vs ds) : ∀ k : Nat, Reps K T H (List.replicate k vs).flatten (repD ds k)
  | 0 => .nil
  | k + 1 => by
    unfold repD
    rw [List.replicate_succ, List.replicate_succ, List.flatten_cons, List.flatten_cons]
    exact h.append (h.rep k)
instance (i j : Int) : Decidable (CMul i j) := by unfold CMul; exact inferInstance
def o_mul : D → D → Option D
  | .int i, .int j => if CMul i j then some (.int (i * j)) else none
  | .lst s, .int k => if -(2 ^ 63) ≤ k ∧ k < 2 ^ 63 ∧ s.length * k.toNat ≤ SZ then some (.lst (repD s k.toNat)) else none
  | _, _ => none
def rMulA : R2 := fun x y H Q => (∃ i j, x = .int i ∧ y = .int j ∧ CMul i j ∧ Q (.int (i * j)) H) ∨ rRep x y H Q
theorem op_mulA : OpR X (binaryOp .Mult) rMulA := OpR.or (op_mul (X := X)) op_rep
theorem m_mul : OpM2 K T rMulA o_mul := fun x y dx dy z H H0 s h1 h2 e Q q => by
  unfold o_mul at e
  split at e
  · split at e
    · rename_i hc; cases e; exact .inl ⟨_, _, h1.int', h2.int', hc, q _ _ _ (.sc (.int _))⟩
    · cases e
  · split at e
    · rename_i hc; cases e
      obtain ⟨a, vs, rfl, a1, a2⟩ := h1.lst' s
      exact .inr ⟨a, _, vs, rfl, h2.int', a1, hc.1, hc.2.1, by rw [← SZ_eq, a2.length]; exact hc.2.2, fun p hp => q _ _ _ (.lst s hp (a2.rep _))⟩
    · cases e
  · cases e
def o_mod : D → D → Option D
  | .int i, .int j => if 0 < j then some (.int (i % j)) else none
  | _, _ => none
theorem m_mod : OpM2 K T (rI (fun _ j => 0 < j) fun i j => .int (i % j)) o_mod := OpS2.op (m_ints fun dx dy z e => by
  unfold o_mod at e; split at e
  · split at e
    · rename_i hc; cases e; exact ⟨_, _, rfl, rfl, hc, fun _ => .int _⟩
    · cases e
  · cases e)
instance (i j : Int) : Decidable (CDiv i j) := by unfold CDiv; exact inferInstance
def o_fdiv : D → D → Option D
  | .int i, .int j => if CDiv i j then some (.int (i / j)) else none
  | _, _ => none
theorem m_fdiv : OpM2 K T (rI CDiv fun i j => .int (i / j)) o_fdiv := OpS2.op (m_ints fun dx dy z e => by
  unfold o_fdiv at e; split at e
  · split at e
    · rename_i hc; cases e; exact ⟨_, _, rfl, rfl, hc, fun _ => .int _⟩
    · cases e
  · cases e)
instance (i j : Int) : Decidable (CPow i j) := by unfold CPow; exact inferInstance
def o_pow : D → D → Option D
  | .int i, .int j => if CPow i j then some (.int (i ^ j.toNat)) else none
  | _, _ => none
theorem m_pow : OpM2 K T (rI CPow fun i j => .int (i ^ j.toNat)) o_pow := OpS2.op (m_ints fun dx dy z e => by
  unfold o_pow at e; split at e
  · split at e
    · rename_i hc; cases e; exact ⟨_, _, rfl, rfl, hc, fun _ => .int _⟩
    · cases e
  · cases e)
def o_neg : D → Option D
  | .int i => some (.int (-i))
  | _ => none
theorem m_neg : OpM1 K T (rU fun i => .int (-i)) o_neg := fun x dx z H H0 s h e Q q => by
  unfold o_neg at e; split at e
  · cases e; exact ⟨_, h.int', q _ _ _ (.sc (.int _))⟩
  · cases e
/-! ### comparisons of ints -/
def o_icmp (p : Int → Int → Bool) : D → D → Option D
  | .int i, .int j => some (.bl (p i j))
  | _, _ => none
theorem m_icmp {p : Int → Int → Bool} : OpS2 K T (rI0 fun i j => .bl (p i j)) (o_icmp p) := m_ints0 fun dx dy z e => by
  unfold o_icmp at e; split at e
  · cases e; exact ⟨_, _, rfl, rfl, fun _ => .bl _⟩
  · cases e
abbrev o_lt := o_icmp fun i j => decide (i < j)
abbrev o_le := o_icmp fun i j => decide (i ≤ j)
abbrev o_gt := o_icmp fun i j => decide (j < i)
abbrev o_ge := o_icmp fun i j => decide (j ≤ i)
/-! ### is None -/
def isNon : D → Bool
  | .non => true
  | _ => false
theorem isNon_eq {d : D} (h : RepE K T H H0 v d) : decide (v = .non) = isNon d := by
  cases d with
  | non => rw [h.non']; rfl
  | bl b => rw [h.bl']; rfl
  | int i => rw [h.int']; rfl
  | str x => rw [h.str']; rfl
  | tup ds => obtain ⟨a, vs, rfl, _⟩ := h.tup'; rfl
  | lst ds =>
    rcases h with h | ⟨a, vs, es, rfl, e, h1, h2⟩ | ⟨_, _, _, _, _, _, e, _⟩
    · cases h; rfl
    · rfl
    · cases e
  | ro b ds =>
    rcases h with h | ⟨a, vs, es, rfl, e, h1, h2⟩ | ⟨_, _, _, _, _, _, e, _⟩
    · cases h <;> rfl
    · rfl
    · cases e
  | ins c ds =>
    rcases h with h | ⟨a, vs, es, rfl, e, h1, h2⟩ | ⟨_, _, _, _, _, rfl, e, _⟩
    · cases h; rfl
    · rfl
    · rfl
def o_isN : D → D → Option D
  | x, .non => some (.bl (isNon x))
  | _, _ => none
def o_notN : D → D → Option D
  | x, .non => some (.bl (!isNon x))
  | _, _ => none
theorem m_isN : OpS2 K T (fun x y H Q => y = .non ∧ Q (.bl (decide (x = .non))) H) o_isN := fun x y dx dy z H H0 s h1 h2 e Q q => by
  cases dy with
  | non => cases e; exact ⟨h2.non', by rw [isNon_eq h1]; exact q _ fun _ => .bl _⟩
  | _ => cases e
theorem m_notN : OpS2 K T (fun x y H Q => y = .non ∧ Q (.bl (!decide (x = .non))) H) o_notN := fun x y dx dy z H H0 s h1 h2 e Q q => by
  cases dy with
  | non => cases e; exact ⟨h2.non', by rw [isNon_eq h1]; exact q _ fun _ => .bl _⟩
  | _ => cases e
/-! ### items -/
def o_ix : D → D → Option D
  | .str z, .int i => if z.length ≤ SZ then (atI z.cps.toList i).map fun c => .str ⟨#[c]⟩ else none
  | d, .int i => match seqOf d with
    | some (_, ds) => atI ds i
    | none => none
  | _, _ => none
theorem Reps.atI {vs : List V} {ds : List D} {i : Int} {d : D} (h : Reps K T H0 vs ds) (e : L2.atI ds i = some d) : ∃ v, L2.atI vs i = some v ∧ Rep K T H0 v d := by
  unfold L2.atI at e ⊢
  rw [h.length]
  cases q : ixN ds.length i with
  | none => rw [q] at e; cases e
  | some j =>
    rw [q] at e
    exact h.get (i := j) e
theorem m_ix : OpM2 K T (rIx K) o_ix := fun x y dx dy z H H0 s h1 h2 e Q q => by
  have sq : ∀ i, dy = .int i → (match seqOf dx with | some (_, ds) => L2.atI ds i | none => none) = some z → rIx K x y H Q := fun i ei e0 => by
    clear e
    subst ei
    cases hs : seqOf dx with
    | none => rw [hs] at e0; cases e0
    | some p =>
      obtain ⟨b, ds⟩ := p
      rw [hs] at e0
      obtain ⟨a, vs, rfl, a1, a2⟩ := h1.seq s hs
      obtain ⟨u, e1, e2⟩ := a2.atI e0
      cases b with
      | true => exact .inr (.inl ⟨a, vs, i, u, rfl, h2.int', (by rw [if_pos rfl] at a1; exact a1), e1, q _ _ _ (.sc e2)⟩)
      | false => exact .inl ⟨a, vs, i, u, rfl, h2.int', (by rw [if_neg Bool.false_ne_true] at a1; exact a1), e1, q _ _ _ (.sc e2)⟩
  cases dx with
  | str t =>
    cases dy with
    | int i =>
      have e : (if t.length ≤ SZ then (L2.atI t.cps.toList i).map fun c => D.str ⟨#[c]⟩ else none) = some z := e
      by_cases hz : t.length ≤ SZ
      · rw [if_pos hz] at e
        cases hc : L2.atI t.cps.toList i with
        | none => rw [hc] at e; cases e
        | some c => rw [hc] at e; cases e; exact .inr (.inr ⟨t, i, c, h1.str', h2.int', by rw [← SZ_eq]; exact hz, hc, q _ _ _ (.sc (.str _))⟩)
      · rw [if_neg hz] at e; cases e
    | _ => cases e
  | _ =>
    cases dy with
    | int i => exact sq i rfl e
    | _ => cases e
/-! ### built-in functions -/
def f_len : List D → Option D
  | [.str z] => if z.length ≤ SZ then some (.int z.length) else none
  | [d] => (seqOf d).map fun p => .int p.2.length
  | _ => none
theorem m_len : OpMs K T (fun xs H Q => ∃ x n, xs = [x] ∧ LenV K x H n ∧ Q (.int n) H) f_len := fun xs ds z H H0 s h e Q q => by
  match ds, e, h with
  | [.str t], e, h =>
    obtain ⟨v, rfl, hv⟩ := h.one
    have e : (if t.length ≤ SZ then some (D.int t.length) else none) = some z := e
    by_cases hz : t.length ≤ SZ
    · rw [if_pos hz] at e; cases e
      rw [hv.str']
      exact ⟨_, t.length, rfl, ⟨by rw [← SZ_eq]; exact hz, rfl⟩, q _ _ _ (.sc (.int _))⟩
    · rw [if_neg hz] at e; cases e
  | [.non], e, h => cases e
  | [.bl _], e, h => cases e
  | [.int _], e, h => cases e
  | [.ins _ _], e, h => cases e
  | [.tup es], e, h =>
    cases e
    obtain ⟨v, rfl, hv⟩ := h.one
    obtain ⟨a, vs, rfl, a1, a2⟩ := hv.tup'
    exact ⟨_, es.length, rfl, .inr ⟨vs, SqT.of (s _ _ a1), a2.length.symm⟩, q _ _ _ (.sc (.int _))⟩
  | [.lst es], e, h =>
    cases e
    obtain ⟨v, rfl, hv⟩ := h.one
    obtain ⟨a, vs, rfl, a1, a2⟩ := hv.lst' s
    exact ⟨_, es.length, rfl, .inl ⟨vs, SqL.of a1, a2.length.symm⟩, q _ _ _ (.sc (.int _))⟩
  | [.ro b es], e, h =>
    cases e
    obtain ⟨v, rfl, hv⟩ := h.one
    obtain ⟨a, vs, rfl, a1, a2⟩ := hv.seq s rfl
    cases b with
    | true => exact ⟨_, es.length, rfl, .inr ⟨vs, by rw [if_pos rfl] at a1; exact a1, a2.length.symm⟩, q _ _ _ (.sc (.int _))⟩
    | false => exact ⟨_, es.length, rfl, .inl ⟨vs, by rw [if_neg Bool.false_ne_true] at a1; exact a1, a2.length.symm⟩, q _ _ _ (.sc (.int _))⟩
  | [], e, h => cases e
  | _ :: _ :: _, e, h => simp [f_len] at e
def f_abs : List D → Option D
  | [.int i] => some (.int (if i < 0 then -i else i))
  | _ => none
theorem m_abs : OpMs K T (fun xs H Q => ∃ i, xs = [.int i] ∧ Q (.int (if i < 0 then -i else i)) H) f_abs := fun xs ds z H H0 s h e Q q => by
  unfold f_abs at e; split at e
  · cases e; obtain ⟨v, rfl, hv⟩ := h.one; exact ⟨_, by rw [hv.int'], q _ _ _ (.sc (.int _))⟩
  · cases e
/-- int(x) of an int, a truth value, a text -/
def f_int : List D → Option D
  | [.int i] => some (.int i)
  | [.bl b] => some (.int (if b then 1 else 0))
  | [.str x] => match PySem.intText? x with
    | some n => if x.length ≤ 640 then some (.int n) else none
    | none => none
  | _ => none
def rIntA : List V → Hp → VK → Prop := fun xs H Q => ((∃ i, xs = [.int i] ∧ Q (.int i) H) ∨ ∃ k, xs = [.bl k] ∧ Q (.int (if k then 1 else 0)) H) ∨ ∃ a n, xs = [.str a] ∧ PySem.intText? a = some n ∧ a.length ≤ 640 ∧ Q (.int n) H
theorem call_intA : CallR X (.type "int") rIntA := CallR.or (call_int1 (X := X)) call_int_str
theorem m_int : OpMs K T rIntA f_int := fun xs ds z H H0 s h e Q q => by
  unfold f_int at e; split at e
  · cases e; obtain ⟨v, rfl, hv⟩ := h.one; exact .inl (.inl ⟨_, by rw [hv.int'], q _ _ _ (.sc (.int _))⟩)
  · cases e; obtain ⟨v, rfl, hv⟩ := h.one; exact .inl (.inr ⟨_, by rw [hv.bl'], q _ _ _ (.sc (.int _))⟩)
  · rename_i x
    obtain ⟨v, rfl, hv⟩ := h.one
    cases hx : PySem.intText? x with
    | none => rw [hx] at e; cases e
    | some n =>
      rw [hx] at e
      by_cases hz : x.length ≤ 640
      · simp only [if_pos hz] at e; cases e; exact .inr ⟨x, n, by rw [hv.str'], hx, hz, q _ _ _ (.sc (.int _))⟩
      · simp only [if_neg hz] at e; cases e
  · cases e
/-- list methods -/
def f_append (ds : List D) : List D → Option (D × List D)
  | [d] => if ds.length < SZ then some (.non, ds ++ [d]) else none
  | _ => none
theorem m_append : OpLm K T rAppend f_append := fun a vs ds xs es z ds' H H0 s h1 h2 h3 h4 e Q q => by
  unfold f_append at e; split at e
  · split at e
    · rename_i d hz
      cases e
      cases h4 with
      | cons h5 h6 =>
        cases h6
        exact ⟨a, vs, _, rfl, rfl, h1, by rw [← SZ_eq, h3.length]; exact hz, q _ _ .non (h3.append (.one h5))⟩
    · cases e
  · cases e
end
end Ml
set_option Elab.async false
set_option linter.all false
set_option maxRecDepth 100000
set_option maxHeartbeats 4000000
/-! Ml8: == and in on data. -/
namespace Ml
open PySem L2
mutual
/-- == of data -/
def deq : D → D → Bool
  | .non, .non => true
  | .bl a, .bl b => a == b
  | .bl a, .int j => (if a then 1 else 0) == j
  | .int i, .bl b => i == (if b then 1 else 0)
  | .int i, .int j => i == j
  | .str x, .str y => x == y
  | .lst xs, .lst ys => deqs xs ys
  | .lst xs, .ro false ys => deqs xs ys
  | .ro false xs, .lst ys => deqs xs ys
  | .ro false xs, .ro false ys => deqs xs ys
  | .tup xs, .tup ys => deqs xs ys
  | .tup xs, .ro true ys => deqs xs ys
  | .ro true xs, .tup ys => deqs xs ys
  | .ro true xs, .ro true ys => deqs xs ys
  | _, _ => false
def deqs : List D → List D → Bool
  | [], [] => true
  | x :: xs, y :: ys => deq x y && deqs xs ys
  | _, _ => false
end
mutual
/-- data of a depth of at most n, of texts that can be -/
def dOk : Nat → D → Bool
  | _, .non => true
  | _, .bl _ => true
  | _, .int _ => true
  | _, .str x => PyData.strOk x
  | 0, _ => false
  | n + 1, .lst xs => dOks n xs
  | n + 1, .tup xs => dOks n xs
  | n + 1, .ro _ xs => dOks n xs
  | _ + 1, .ins _ _ => false
def dOks : Nat → List D → Bool
  | _, [] => true
  | n, x :: xs => dOk n x && dOks n xs
end
mutual
/-- the library's data for it -/
inductive Tells : D → PyData → Prop
  | non : Tells .non .none
  | bl (b : Bool) : Tells (.bl b) (.bool b)
  | int (i : Int) : Tells (.int i) (.int i)
  | str (x : Str) : Tells (.str x) (.str x)
  | lst {ds : List D} {ps : List PyData} : TellsAll ds ps → Tells (.lst ds) (.list ps)
  | tup {ds : List D} {ps : List PyData} : TellsAll ds ps → Tells (.tup ds) (.tuple ps)
  | roL {ds : List D} {ps : List PyData} : TellsAll ds ps → Tells (.ro false ds) (.list ps)
  | roT {ds : List D} {ps : List PyData} : TellsAll ds ps → Tells (.ro true ds) (.tuple ps)
inductive TellsAll : List D → List PyData → Prop
  | nil : TellsAll [] []
  | cons {d : D} {p : PyData} {ds : List D} {ps : List PyData} : Tells d p → TellsAll ds ps → TellsAll (d :: ds) (p :: ps)
end
mutual
theorem deq_eqv : ∀ {d e : D} {p q : PyData}, Tells d p → Tells e q → PyData.eqv p q = deq d e
  | _, _, _, _, .non, h => by cases h <;> simp [PyData.eqv, deq]
  | _, _, _, _, .bl _, h => by cases h <;> simp [PyData.eqv, deq]
  | _, _, _, _, .int _, h => by cases h <;> simp [PyData.eqv, deq]
  | _, _, _, _, .str _, h => by cases h <;> simp [PyData.eqv, deq]
  | _, _, _, _, .lst a, h => by cases h <;> simp [PyData.eqv, deq] <;> exact deqs_eqv a (by assumption)
  | _, _, _, _, .tup a, h => by cases h <;> simp [PyData.eqv, deq] <;> exact deqs_eqv a (by assumption)
  | _, _, _, _, .roL a, h => by cases h <;> simp [PyData.eqv, deq] <;> exact deqs_eqv a (by assumption)
  | _, _, _, _, .roT a, h => by cases h <;> simp [PyData.eqv, deq] <;> exact deqs_eqv a (by assumption)
theorem deqs_eqv : ∀ {ds es : List D} {ps qs : List PyData}, TellsAll ds ps → TellsAll es qs → PyData.eqvAll ps qs = deqs ds es
  | _, _, _, _, .nil, h => by cases h <;> simp [PyData.eqvAll, deqs]
  | _, _, _, _, .cons a b, h => by
    cases h with
    | nil => simp [PyData.eqvAll, deqs]
    | cons c d => simp [PyData.eqvAll, deqs, deq_eqv a c, deqs_eqv b d]
end
section
variable {K : PySem.W.Frag} {T : Tab} {F : Fc} {W : WX} {X : Cx} {H H0 : Hp} {v : V}
mutual
theorem dp_of (s : Sub H0 H) : ∀ (n : Nat) (d : D) (v : V), dOk n d = true → Rep K T H0 v d → ∃ p, Dp K H v p ∧ PyData.canLay0 p = true ∧ p.depth ≤ n ∧ Tells d p
  | _, .non, _, _, .non => ⟨_, .non, rfl, Nat.zero_le _, .non⟩
  | _, .bl b, _, _, .bl _ => ⟨_, .bl b, rfl, Nat.zero_le _, .bl b⟩
  | _, .int i, _, _, .int _ => ⟨_, .int i, rfl, Nat.zero_le _, .int i⟩
  | _, .str x, _, h, .str _ => ⟨_, .str x, by simpa [dOk, PyData.canLay0] using h, Nat.zero_le _, .str x⟩
  | 0, .lst _, _, h, _ => by simp [dOk] at h
  | 0, .tup _, _, h, _ => by simp [dOk] at h
  | 0, .ro _ _, _, h, _ => by simp [dOk] at h
  | 0, .ins _ _, _, h, _ => by simp [dOk] at h
  | n + 1, .lst ds, _, h, .lst h1 h2 => by
    obtain ⟨ps, a, b, c, d⟩ := dps_of s n ds _ (by simpa [dOk] using h) h2
    exact ⟨.list ps, .lst (SqL.of (s _ _ h1)) a, b, by simp [PyData.depth]; exact c, .lst d⟩
  | n + 1, .tup ds, _, h, .tup h1 h2 => by
    obtain ⟨ps, a, b, c, d⟩ := dps_of s n ds _ (by simpa [dOk] using h) h2
    exact ⟨.tuple ps, .tup (SqT.of (s _ _ h1)) a, b, by simp [PyData.depth]; exact c, .tup d⟩
  | n + 1, .ro true ds, _, h, .roT h1 h2 => by
    obtain ⟨ps, a, b, c, d⟩ := dps_of s n ds _ (by simpa [dOk] using h) h2
    exact ⟨.tuple ps, .tup (s.sqT h1) a, b, by simp [PyData.depth]; exact c, .roT d⟩
  | n + 1, .ro false ds, _, h, .roL h1 h2 => by
    obtain ⟨ps, a, b, c, d⟩ := dps_of s n ds _ (by simpa [dOk] using h) h2
    exact ⟨.list ps, .lst (s.sqL h1) a, b, by simp [PyData.depth]; exact c, .roL d⟩
  | n + 1, .ins _ _, _, h, _ => by simp [dOk] at h
theorem dps_of (s : Sub H0 H) : ∀ (n : Nat) (ds : List D) (vs : List V), dOks n ds = true → Reps K T H0 vs ds → ∃ ps, DpAll K H vs ps ∧ PyData.canLayAll0 ps = true ∧ PyData.depthAll ps ≤ n ∧ TellsAll ds ps
  | _, [], _, _, .nil => ⟨[], .nil, rfl, Nat.zero_le _, .nil⟩
  | n, d :: ds, _, h, .cons h1 h2 => by
    have h : (dOk n d && dOks n ds) = true := by simpa [dOks] using h
    rw [Bool.and_eq_true] at h
    obtain ⟨p, a1, b1, c1, e1⟩ := dp_of s n d _ h.1 h1
    obtain ⟨ps, a2, b2, c2, e2⟩ := dps_of s n ds _ h.2 h2
    exact ⟨p :: ps, .cons a1 a2, by simp [PyData.canLayAll0, b1, b2], by simp only [PyData.depthAll]; omega, .cons e1 e2⟩
end
theorem dp_ofE (s : Sub H0 H) {n : Nat} {d : D} {v : V} (e : dOk n d = true) (h : RepE K T H H0 v d) : ∃ p, Dp K H v p ∧ PyData.canLay0 p = true ∧ p.depth ≤ n ∧ Tells d p := by
  rcases h with h | ⟨a, vs, ds, rfl, rfl, h1, h2⟩ | ⟨_, _, _, _, _, rfl, rfl, _⟩
  · exact dp_of s n d v e h
  · cases n with
    | zero => simp [dOk] at e
    | succ n =>
      obtain ⟨ps, a, b, c, d⟩ := dps_of s n ds _ (by simpa [dOk] using e) h2
      exact ⟨.list ps, .lst (SqL.of h1) a, b, by simp [PyData.depth]; exact c, .lst d⟩
  · cases n <;> simp [dOk] at e
def o_eq : D → D → Option D
  | .int i, .int j => some (.bl (decide (i = j)))
  | .str i, .str j => some (.bl (decide (i = j)))
  | .bl i, .bl j => some (.bl (decide (i = j)))
  | x, y => if dOk 60 x = true ∧ dOk 60 y = true then some (.bl (deq x y)) else none
def o_ne (x y : D) : Option D := match o_eq x y with
  | some (.bl b) => some (.bl (!b))
  | _ => none
def rEqA (K : PySem.W.Frag) : R2 := fun x y H Q => rEq x y H Q ∨ rEqD K x y H Q
def rNeA (K : PySem.W.Frag) : R2 := fun x y H Q => rNe x y H Q ∨ rNeD K x y H Q
theorem op_eqA {k : Nat} (hr : Room k X.A) : OpR X (compareOp .Eq) (rEqA X.K) := OpR.or op_eq (op_eqD hr.units)
theorem op_neA {k : Nat} (hr : Room k X.A) : OpR X (compareOp .NotEq) (rNeA X.K) := OpR.or op_ne (op_neD hr.units)
theorem eq_cases {x y : V} {dx dy : D} (s : Sub H0 H) (h1 : RepE K T H H0 x dx) (h2 : RepE K T H H0 y dy) {z : D} (e : o_eq dx dy = some z) : ∃ b, z = .bl b ∧ ((scal x y = true ∧ decide (x = y) = b) ∨
    ∃ d e, Dp K H x d ∧ Dp K H y e ∧ SeqAt.shaped d = true ∧ SeqAt.shaped e = true ∧ PyData.eqv d e = b) := by
  unfold o_eq at e
  split at e
  · cases e; rw [h1.int', h2.int']; exact ⟨_, rfl, .inl ⟨rfl, by simp⟩⟩
  · cases e; rw [h1.str', h2.str']; exact ⟨_, rfl, .inl ⟨rfl, by simp⟩⟩
  · cases e; rw [h1.bl', h2.bl']; exact ⟨_, rfl, .inl ⟨rfl, by simp⟩⟩
  · split at e
    · rename_i hz
      cases e
      obtain ⟨p, a1, a2, a3, a4⟩ := dp_ofE s hz.1 h1
      obtain ⟨q, b1, b2, b3, b4⟩ := dp_ofE s hz.2 h2
      refine ⟨_, rfl, .inr ⟨p, q, a1, b1, ?_, ?_, deq_eqv a4 b4⟩⟩
      · unfold SeqAt.shaped; rw [a2, Bool.true_and]; exact decide_eq_true (by omega)
      · unfold SeqAt.shaped; rw [b2, Bool.true_and]; exact decide_eq_true (by omega)
    · cases e
theorem m_eq : OpS2 K T (rEqA K) o_eq := fun x y dx dy z H H0 s h1 h2 e Q q => by
  obtain ⟨b, rfl, ⟨h3, h4⟩ | ⟨d, e, a1, a2, a3, a4, a5⟩⟩ := eq_cases s h1 h2 e
  · exact .inl ⟨h3, by rw [h4]; exact q _ fun _ => .bl _⟩
  · exact .inr ⟨d, e, a1, a2, a3, a4, by rw [a5]; exact q _ fun _ => .bl _⟩
theorem m_ne : OpS2 K T (rNeA K) o_ne := fun x y dx dy z H H0 s h1 h2 e Q q => by
  unfold o_ne at e
  cases e1 : o_eq dx dy with
  | none => rw [e1] at e; cases e
  | some zz =>
    obtain ⟨b, rfl, h⟩ := eq_cases s h1 h2 e1
    rw [e1] at e
    cases e
    rcases h with ⟨h3, h4⟩ | ⟨d, e, a1, a2, a3, a4, a5⟩
    · exact .inl ⟨h3, by rw [h4]; exact q _ fun _ => .bl _⟩
    · exact .inr ⟨d, e, a1, a2, a3, a4, by rw [a5]; exact q _ fun _ => .bl _⟩
/-! ### in -/
def flatD : D → Bool
  | .non => true
  | .bl _ => true
  | .int _ => true
  | .str _ => true
  | _ => false
def vOf : D → V
  | .bl b => .bl b
  | .int i => .int i
  | .str x => .str x
  | _ => .non
theorem flat_v {d : D} (f : flatD d = true) {H H0 : Hp} {v : V} (h : RepE K T H H0 v d) : v = vOf d ∧ flatV v = true := by
  cases d with
  | non => rw [h.non']; exact ⟨rfl, rfl⟩
  | bl b => rw [h.bl']; exact ⟨rfl, rfl⟩
  | int b => rw [h.int']; exact ⟨rfl, rfl⟩
  | str b => rw [h.str']; exact ⟨rfl, rfl⟩
  | _ => cases f
theorem eqV_deq {d e : D} (f : flatD d = true) (g : flatD e = true) : eqV (vOf d) (vOf e) = deq d e := by
  cases d <;> first | (cases f; done) | (cases e <;> first | (cases g; done) | simp [vOf, eqV, deq])
theorem flats {H : Hp} : ∀ {vs : List V} {ds : List D}, Reps K T H vs ds → ds.all flatD = true → vs = ds.map vOf ∧ vs.all flatV = true
  | _, _, .nil, _ => ⟨rfl, rfl⟩
  | _, _, .cons (d := d) (ds := ds) h t, e => by
    rw [List.all_cons, Bool.and_eq_true] at e
    obtain ⟨h1, h2⟩ := flat_v (H := H) (H0 := H) e.1 (.inl h)
    obtain ⟨h3, h4⟩ := flats t e.2
    exact ⟨by rw [h1, h3]; rfl, by rw [List.all_cons, h2, h4]; rfl⟩
/-- one sign in a text; a flat thing in a list, a tuple -/
def inD : D → D → Option Bool
  | .str x, .str y => match x.cps.toList with
    | [c] => some (decide (c ∈ y.cps.toList))
    | _ => none
  | x, d => match seqOf d with
    | some (_, ds) => if flatD x = true ∧ ds.all flatD = true then some (ds.any fun y => deq y x) else none
    | none => none
def o_in (x y : D) : Option D := (inD x y).map .bl
def o_nin (x y : D) : Option D := (inD x y).map fun b => .bl (!b)
def rInA (K : PySem.W.Frag) (neg : Bool) : R2 := fun x y H Q => (∃ (c : Nat) (z : Str), x = .str ⟨#[c]⟩ ∧ y = .str z ∧ Q (.bl (if neg then !decide (c ∈ z.cps.toList) else decide (c ∈ z.cps.toList))) H) ∨ rIn K neg x y H Q
theorem op_inA : OpR X (compareOp .In) (rInA X.K false) := OpR.or op_in_sign op_in_seq
theorem op_ninA : OpR X (compareOp .NotIn) (rInA X.K true) := OpR.or op_notIn_sign op_notIn_seq
theorem m_inB {x y : V} {dx dy : D} {neg b : Bool} (s : Sub H0 H) (h1 : RepE K T H H0 x dx) (h2 : RepE K T H H0 y dy) (e : inD dx dy = some b) (Q : VK) (q : Q (.bl (if neg then !b else b)) H) : rInA K neg x y H Q := by
  have sq : (match seqOf dy with
    | some (_, ds) => if flatD dx = true ∧ ds.all flatD = true then some (ds.any fun y => deq y dx) else none
    | none => none) = some b → rInA K neg x y H Q := fun e => by
    cases hs : seqOf dy with
    | none => rw [hs] at e; cases e
    | some p =>
      obtain ⟨c, ds⟩ := p
      rw [hs] at e
      by_cases hz : flatD dx = true ∧ ds.all flatD = true
      · simp only [if_pos hz] at e
        cases e
        obtain ⟨a, vs, rfl, a1, a2⟩ := h2.seq s hs
        obtain ⟨f1, f2⟩ := flat_v hz.1 h1
        obtain ⟨f3, f4⟩ := flats a2 hz.2
        have ev : inV x vs = ds.any fun y => deq y dx := by
          unfold inV
          rw [f3, f1, List.any_map]
          have : ∀ es : List D, es.all flatD = true → (es.any ((fun y => eqV y (vOf dx)) ∘ vOf)) = es.any fun y => deq y dx := fun es => by
            induction es with
            | nil => intro _; rfl
            | cons d es ih =>
              intro h
              rw [List.all_cons, Bool.and_eq_true] at h
              rw [List.any_cons, List.any_cons, ih h.2]
              show (eqV (vOf d) (vOf dx) || _) = _
              rw [eqV_deq h.1 hz.1]
          exact this ds hz.2
        refine .inr ⟨a, vs, rfl, ?_, f2, f4, by rw [ev]; exact q⟩
        cases c with
        | true => rw [if_pos rfl] at a1; exact .inr a1
        | false => rw [if_neg Bool.false_ne_true] at a1; exact .inl a1
      · simp only [if_neg hz] at e; cases e
  cases dx with
  | str x' =>
    cases dy with
    | str y' =>
      have e : (match x'.cps.toList with | [c] => some (decide (c ∈ y'.cps.toList)) | _ => none) = some b := e
      split at e
      · rename_i c hc
        cases e
        refine .inl ⟨c, y', ?_, h2.str', q⟩
        rw [h1.str']
        obtain ⟨⟨l⟩⟩ := x'
        have : l = [c] := hc
        subst this
        rfl
      · cases e
    | _ => exact sq e
  | _ => exact sq e
theorem m_in : OpS2 K T (rInA K false) o_in := fun x y dx dy z H H0 s h1 h2 e Q q => by
  unfold o_in at e
  cases h : inD dx dy with
  | none => rw [h] at e; cases e
  | some b => rw [h] at e; cases e; exact m_inB s h1 h2 h Q (q _ fun _ => .bl _)
theorem m_nin : OpS2 K T (rInA K true) o_nin := fun x y dx dy z H H0 s h1 h2 e Q q => by
  unfold o_nin at e
  cases h : inD dx dy with
  | none => rw [h] at e; cases e
  | some b => rw [h] at e; cases e; exact m_inB s h1 h2 h Q (q _ fun _ => .bl _)
end
end Ml
set_option Elab.async false
set_option linter.all false
set_option maxRecDepth 100000
set_option maxHeartbeats 4000000
/-! Ml9: loops, comprehensions. -/
namespace Ml
open PySem L2
section
variable {K : PySem.W.Frag} {T : Tab} {F : Fc} {W : WX} {X : Cx} {pos : Pos}
/-! ### what is walked -/
/-- the walk yields the data ds, whatever else is made meanwhile -/
def ItOk (K : PySem.W.Frag) (T : Tab) (J : It) (ds : List D) (H0 : Hp) : Prop := ∀ H1 H01, Sub H0 H01 → Sub H01 H1 → ∀ i : Nat,
  (∀ d, ds[i]? = some d → J.go i H1 ∧ ∀ x H', J.yld i H1 x H' → ∃ H0', NewOk K T H1 H01 d x H' H0') ∧ (ds[i]? = none → J.stop i H1)
def rdI (K : PySem.W.Frag) (T : Tab) (F : Fc) (W : WX) (m : EM (List D)) : TI := fun σ H R => ∃ r H0, Rel K T F σ H H0 r ∧ WG K T F W (m r) σ H0 fun ds r' => ∀ J H' H0', Rel K T F σ H' H0' r' → Sub H0 H0' → ItOk K T J ds H0' → R J H'
theorem pi_weak {tg it : Expr} {t t' : TI} (p : PI X tg it t) (h : ∀ σ H R, t' σ H R → t σ H R) : PI X tg it t' := ⟨fun pins s σ H R I q => p.run pins s σ H R I (h σ H R q)⟩
theorem itl_ok {a : Addr} {vs : List V} {ds : List D} {H0 : Hp} (h : SqL K H0 a vs) (r : Reps K T H0 vs ds) : ItOk K T (Itl K a) ds H0 := fun H1 H01 s1 s2 i => by
  have h1 : SqL K H1 a vs := (s1.trans s2).sqL h
  refine ⟨fun d e => ?_, fun e => ⟨vs, h1, ?_⟩⟩
  · obtain ⟨v, e1, e2⟩ := r.get e
    refine ⟨⟨vs, v, h1, e1⟩, fun x H' y => ?_⟩
    obtain ⟨rfl, y⟩ := y
    have := y vs h1
    rw [e1] at this
    cases this
    exact ⟨H01, .sc (e2.mono s1)⟩
  · rw [r.length]; exact List.getElem?_eq_none_iff.mp e
theorem itt_ok {a : Addr} {vs : List V} {ds : List D} {H0 : Hp} (h : SqT K H0 a vs) (r : Reps K T H0 vs ds) : ItOk K T (Itt K a) ds H0 := fun H1 H01 s1 s2 i => by
  have h1 : SqT K H1 a vs := (s1.trans s2).sqT h
  refine ⟨fun d e => ?_, fun e => ⟨vs, h1, ?_⟩⟩
  · obtain ⟨v, e1, e2⟩ := r.get e
    refine ⟨⟨vs, v, h1, e1⟩, fun x H' y => ?_⟩
    obtain ⟨rfl, y⟩ := y
    have := y vs h1
    rw [e1] at this
    cases this
    exact ⟨H01, .sc (e2.mono s1)⟩
  · rw [r.length]; exact List.getElem?_eq_none_iff.mp e
/-- for x in a list, a tuple -/
def i_lst (m : EM D) : EM (List D) := fun r => (m r).bind fun d r => match seqOf d with
  | some (false, ds) => .ok ds r
  | _ => .bad
def i_tup (m : EM D) : EM (List D) := fun r => (m r).bind fun d r => match seqOf d with
  | some (true, ds) => .ok ds r
  | _ => .bad
theorem Rep.seq {H0 : Hp} {v : V} {d : D} {b : Bool} {ds : List D} (h : Rep K T H0 v d) (e : seqOf d = some (b, ds)) : ∃ a vs, v = .ref a ∧ (if b = true then SqT K H0 a vs else SqL K H0 a vs) ∧ Reps K T H0 vs ds := RepE.seq (H := H0) (Sub.refl _) (.inl h) e
theorem mi_lst {tg e : Expr} {m : EM D} (p : PE X e (rdE X.K T F W m)) : PI X tg e (rdI X.K T F W (i_lst m)) := pi_weak (pi_list p) fun σ H R ⟨r, H0, R0, w⟩ => by
  refine ⟨r, H0, R0, WG.bind w fun d r1 _ w1 v H' H0' R' s hv => ?_⟩
  cases hs : seqOf d with
  | none => rw [hs] at w1; exact w1.elim
  | some q =>
    obtain ⟨b, ds⟩ := q
    cases b with
    | true => rw [hs] at w1; exact w1.elim
    | false =>
      rw [hs] at w1
      obtain ⟨a, vs, rfl, a1, a2⟩ := hv.seq hs
      rw [if_neg Bool.false_ne_true] at a1
      exact ⟨a, rfl, ⟨vs, R'.sub.sqL a1⟩, w1 _ H' H0' R' s (itl_ok a1 a2)⟩
theorem mi_tup {tg e : Expr} {m : EM D} (p : PE X e (rdE X.K T F W m)) : PI X tg e (rdI X.K T F W (i_tup m)) := pi_weak (pi_tup p) fun σ H R ⟨r, H0, R0, w⟩ => by
  refine ⟨r, H0, R0, WG.bind w fun d r1 _ w1 v H' H0' R' s hv => ?_⟩
  cases hs : seqOf d with
  | none => rw [hs] at w1; exact w1.elim
  | some q =>
    obtain ⟨b, ds⟩ := q
    cases b with
    | false => rw [hs] at w1; exact w1.elim
    | true =>
      rw [hs] at w1
      obtain ⟨a, vs, rfl, a1, a2⟩ := hv.seq hs
      rw [if_pos rfl] at a1
      exact ⟨a, rfl, ⟨vs, R'.sub.sqT a1⟩, w1 _ H' H0' R' s (itt_ok a1 a2)⟩
/-- range(n), range(a, b) -/
def rngD (lo hi : Int) : List D := (List.range (hi - lo).toNat).map fun i => .int (lo + (i : Nat))
theorem itr_ok {lo hi : Int} {H0 : Hp} : ItOk K T (Itr lo (hi - lo).toNat) (rngD lo hi) H0 := fun H1 H01 s1 s2 i => by
  unfold rngD
  refine ⟨fun d e => ?_, fun e => ?_⟩
  · rw [List.getElem?_map] at e
    by_cases h : i < (hi - lo).toNat
    · rw [List.getElem?_range h] at e
      cases e
      refine ⟨h, fun x H' y => ?_⟩
      obtain ⟨rfl, rfl⟩ := y
      exact ⟨H01, .sc (.int _)⟩
    · rw [List.getElem?_eq_none (by simpa using h)] at e; cases e
  · have := List.getElem?_eq_none_iff.mp e
    show (hi - lo).toNat ≤ i
    rw [List.length_map, List.length_range] at this
    exact this
def inRng (i : Int) : Bool := decide (-(2 ^ 62) ≤ i ∧ i < 2 ^ 62)
def i_rng1 (m : EM (List AD)) : EM (List D) := fun r => (m r).bind fun as r => match dats as with
  | some [.int n] => if inRng n = true then .ok (rngD 0 n) r else .bad
  | _ => .bad
def i_rng2 (m : EM (List AD)) : EM (List D) := fun r => (m r).bind fun as r => match dats as with
  | some [.int a, .int b] => if inRng a = true ∧ inRng b = true then .ok (rngD a b) r else .bad
  | _ => .bad
theorem mi_rng1 {tg a : Expr} {ma : EM (List AD)} {p : Pos} (hm : X.mg "range" = none) (ha : PA X [a] (rdA K T F W ma)) (hg : Gl X "range" := by rfl) (hs : starEach [a] X.env = [(false, eval a X.env)] := by rfl) : PI X tg (.Call (.Name "range" p) [a] [] pos) (rdI K T F W (i_rng1 ma)) :=
  pi_weak (pi_range1 hg hm ha hs) fun σ H R ⟨r, H0, R0, w⟩ => by
    refine ⟨r, H0, R0, WG.bind w fun as r1 _ w1 vs H' H0' R' s hv => ?_⟩
    split at w1
    · rename_i n hd
      split at w1
      · rename_i hn
        have q := hv.dats hd
        cases q with
        | cons h1 h2 =>
          cases h2
          cases h1
          have hn' := of_decide_eq_true hn
          refine ⟨n, rfl, hn'.1, hn'.2, ?_⟩
          have e : n.toNat = (n - 0).toNat := by rw [Int.sub_zero]
          rw [e]
          exact w1 _ H' H0' R' s itr_ok
      · exact w1.elim
    · exact w1.elim
theorem mi_rng2 {tg a b : Expr} {ma : EM (List AD)} {p : Pos} (hm : X.mg "range" = none) (ha : PA X [a, b] (rdA K T F W ma)) (hg : Gl X "range" := by rfl) (hs : starEach [a, b] X.env = [(false, eval a X.env), (false, eval b X.env)] := by rfl) (hs2 : starEach [b] X.env = [(false, eval b X.env)] := by rfl) : PI X tg (.Call (.Name "range" p) [a, b] [] pos) (rdI K T F W (i_rng2 ma)) :=
  pi_weak (pi_range2 hg hm ha hs hs2) fun σ H R ⟨r, H0, R0, w⟩ => by
    refine ⟨r, H0, R0, WG.bind w fun as r1 _ w1 vs H' H0' R' s hv => ?_⟩
    split at w1
    · rename_i n m hd
      split at w1
      · rename_i hn
        have q := hv.dats hd
        cases q with
        | cons h1 h2 =>
          cases h2 with
          | cons h3 h4 =>
            cases h4
            cases h1
            cases h3
            have h1' := of_decide_eq_true hn.1
            have h2' := of_decide_eq_true hn.2
            exact ⟨n, m, rfl, ⟨h1'.1, h1'.2, h2'.1, h2'.2⟩, w1 _ H' H0' R' s itr_ok⟩
      · exact w1.elim
    · exact w1.elim
/-- the signs of a text -/
def sgnD (x : Str) : List D := x.cps.toList.map fun c => .str ⟨#[c]⟩
def i_str (m : EM D) : EM (List D) := fun r => (m r).bind fun d r => match d with
  | .str x => .ok (sgnD x) r
  | _ => .bad
theorem mi_str {tg e : Expr} {m : EM D} (p : PE X e (rdE X.K T F W m)) : PI X tg e (rdI X.K T F W (i_str m)) := pi_weak (pi_str p) fun σ H R ⟨r, H0, R0, w⟩ => by
  refine ⟨r, H0, R0, WG.bind w fun d r1 _ w1 v H' H0' R' s hv => ?_⟩
  cases hv with
  | str x =>
    refine ⟨x, rfl, w1 _ H' H0' R' s fun H1 H01 s1 s2 i => ⟨fun d e => ?_, fun e => ?_⟩⟩
    · unfold sgnD at e
      rw [List.getElem?_map] at e
      cases hc : x.cps.toList[i]? with
      | none => rw [hc] at e; cases e
      | some c =>
        rw [hc] at e
        cases e
        have hc' : x.cps[i]? = some c := by rw [← hc]; simp
        refine ⟨?_, fun y H' q => ?_⟩
        · have := (List.getElem?_eq_some_iff.mp hc).1
          show i < x.cps.size
          simpa using this
        · obtain ⟨rfl, c', e1, rfl⟩ := q
          rw [hc'] at e1
          cases e1
          exact ⟨H01, .sc (.str _)⟩
    · unfold sgnD at e
      have := List.getElem?_eq_none_iff.mp e
      show x.cps.size ≤ i
      simpa using this
  | _ => exact w1.elim
/-- for i, x in enumerate(xs) -/
def enumD (ds : List D) : List D := ds.mapIdx fun i d => .tup [.int (i : Nat), d]
def i_enum (m : EM (List AD)) : EM (List D) := fun r => (m r).bind fun as r => match dats as with
  | some [d] => (match seqOf d with
    | some (false, ds) => .ok (enumD ds) r
    | _ => .bad)
  | _ => .bad
theorem mi_enum {e : Expr} {ma : EM (List AD)} {p tpos : Pos} {elts : List Expr} {kk : Nat} (hm : X.mg "enumerate" = none) (ha : PA X [e] (rdA X.K T F W ma)) (hg : Gl X "enumerate" := by rfl) (hs : starEach [e] X.env = [(false, eval e X.env)] := by rfl) :
    PI X (.Tuple elts kk tpos) (.Call (.Name "enumerate" p) [e] [] pos) (rdI X.K T F W (i_enum ma)) := pi_weak (pi_enum hg hm ha hs) fun σ H R ⟨r, H0, R0, w⟩ => by
  refine ⟨r, H0, R0, WG.bind w fun as r1 _ w1 vs H' H0' R' s hv => ?_⟩
  split at w1
  · rename_i d hd
    have q := hv.dats hd
    cases q with
    | cons h1 h2 =>
      cases h2
      cases hq : seqOf d with
      | none => rw [hq] at w1; exact w1.elim
      | some z =>
        obtain ⟨b, ds⟩ := z
        cases b with
        | true => rw [hq] at w1; exact w1.elim
        | false =>
          rw [hq] at w1
          obtain ⟨a, vs, rfl, a1, a2⟩ := h1.seq hq
          rw [if_neg Bool.false_ne_true] at a1
          refine ⟨a, vs, rfl, R'.sub.sqL a1, w1 _ H' H0' R' s fun H1 H01 s1 s2 i => ⟨fun d e => ?_, fun e => ?_⟩⟩
          · unfold enumD at e
            rw [List.getElem?_mapIdx] at e
            cases hi : ds[i]? with
            | none => rw [hi] at e; cases e
            | some d' =>
              rw [hi] at e
              cases e
              obtain ⟨v, e1, e2⟩ := a2.get hi
              have h1 : SqL X.K H1 a vs := (s1.trans s2).sqL a1
              refine ⟨⟨vs, v, h1, e1⟩, fun y H2 q => ?_⟩
              obtain ⟨TT, x, rfl, hn, rfl, q⟩ := q
              have := q vs h1
              rw [e1] at this
              cases this
              exact ⟨_, .tup s2 hn (.cons (.int _) (.one (e2.mono s1)))⟩
          · unfold enumD at e
            have := List.getElem?_eq_none_iff.mp e
            rw [List.length_mapIdx] at this
            exact ⟨vs, (s1.trans s2).sqL a1, by rw [a2.length]; exact this⟩
  · exact w1.elim
/-! ### targets -/
/-- what a target does: σ changes at the places vs alone -/
def GOk (K : PySem.W.Frag) (T : Tab) (F : Fc) (vs : List Nat) (g : TG) (gb : D → Rho → Option Rho) : Prop := ∀ v d σ H H0 r r1 Q, Rel K T F σ H H0 r → Rep K T H0 v d → gb d r = some r1 → (∀ σ', Rel K T F σ' H H0 r1 → (∀ j : Nat, j ∉ vs → σ'[j]? = σ[j]?) → σ'.length = σ.length → Q σ' H) → g v σ H Q
def GsOk (K : PySem.W.Frag) (T : Tab) (F : Fc) (vs : List Nat) (g : TGs) (gb : List D → Rho → Option Rho) : Prop := ∀ us ds σ H H0 r r1 Q, Rel K T F σ H H0 r → Reps K T H0 us ds → gb ds r = some r1 → (∀ σ', Rel K T F σ' H H0 r1 → (∀ j : Nat, j ∉ vs → σ'[j]? = σ[j]?) → σ'.length = σ.length → Q σ' H) → g us σ H Q
def FOk (F : Fc) (vs : List Nat) : Prop := ∀ p ∈ F.R, p.1 ∉ vs
def PGm (X : Cx) (T : Tab) (vs : List Nat) (tg : Expr) (g : TG) (gb : D → Rho → Option Rho) : Prop := PG X tg g ∧ ∀ F, FOk F vs → GOk X.K T F vs g gb
def PGsm (X : Cx) (T : Tab) (vs : List Nat) (tg : List Expr) (g : TGs) (gb : List D → Rho → Option Rho) : Prop := PGs X tg g ∧ ∀ F, FOk F vs → GsOk X.K T F vs g gb
def g_name (i : Nat) : D → Rho → Option Rho := fun d r => some (r.set i (.fz d))
def gs_nil : List D → Rho → Option Rho := fun ds r => match ds with
  | [] => some r
  | _ => none
def gs_cons (g : D → Rho → Option Rho) (gs : List D → Rho → Option Rho) : List D → Rho → Option Rho := fun ds r => match ds with
  | d :: ds => (match g d r with
    | some r1 => gs ds r1
    | none => none)
  | [] => none
def g_tup (n : Nat) (gs : List D → Rho → Option Rho) : D → Rho → Option Rho := fun d r => match seqOf d with
  | some (true, ds) => if ds.length = n then gs ds r else none
  | _ => none
theorem mg_name (i : Nat) {vs : List Nat} {x : Str} (hN : X.N.Nodup) (hi : X.N[i]? = some x := by rfl) (hx : Loc X.env.scope x := by first | exact .inl rfl | exact .inr rfl) (hf : X.fn x = true ∨ X.env.scope.names.lookup x = some .local := by first | exact .inl rfl | exact .inr rfl | assumption) (hv : vs.contains i = true := by rfl) :
    PGm X T vs (.Name x pos) (gName i) (g_name i) := ⟨pg_name hN hi hx hf, fun F hF v d σ H H0 r r1 Q R h e q => by
      cases e
      have hm : i ∈ vs := List.contains_iff_mem.mp hv
      exact q _ (R.setFz (fun p hp z => hF p hp (by rw [z]; exact hm)) h) (fun j hj => List.getElem?_set_ne (fun z => hj (by rw [← z]; exact hm))) (List.length_set ..)⟩
theorem mgs_nil {vs : List Nat} : PGsm X T vs [] gNil gs_nil := ⟨pgs_nil, fun F _ us ds σ H H0 r r1 Q R h e q => by
  cases h with
  | nil => cases e; exact ⟨rfl, q _ R (fun _ _ => rfl) rfl⟩
  | cons _ _ => cases e⟩
theorem mgs_cons {vs : List Nat} {e : Expr} {es : List Expr} {g : D → Rho → Option Rho} {gs : List D → Rho → Option Rho} {t : TG} {u : TGs} (h1 : PGm X T vs e t g) (h2 : PGsm X T vs es u gs) (h : PG X e t → PGs X es u → PGs X (e :: es) (gCons t u) := by exact fun a b => pgs_cons a b) : PGsm X T vs (e :: es) (gCons t u) (gs_cons g gs) := by
  obtain ⟨p1, o1⟩ := h1
  obtain ⟨p2, o2⟩ := h2
  refine ⟨h p1 p2, fun F hF us ds σ H H0 r r1 Q R hr eq q => ?_⟩
  cases hr with
  | nil => cases eq
  | cons ha hb =>
    rename_i v d us ds
    have eq : (match g d r with | some r1 => gs ds r1 | none => none) = some r1 := eq
    cases hg : g d r with
    | none => rw [hg] at eq; cases eq
    | some r2 =>
      rw [hg] at eq
      exact ⟨v, us, rfl, o1 F hF v d σ H H0 r r2 _ R ha hg fun σ' R' e' l' => o2 F hF us ds σ' H H0 r2 r1 Q R' hb eq fun σ2 R2 e2 l2 => q σ2 R2 (fun j hj => (e2 j hj).trans (e' j hj)) (l2.trans l')⟩
theorem mg_tup {vs : List Nat} {es : List Expr} {k n : Nat} {gs : List D → Rho → Option Rho} {t : TGs} (h : PGsm X T vs es t gs) (hp : PGs X es t → PG X (.Tuple es k pos) (gTup X.K n t)) : PGm X T vs (.Tuple es k pos) (gTup X.K n t) (g_tup n gs) := by
  obtain ⟨p, o⟩ := h
  refine ⟨hp p, fun F hF v d σ H H0 r r1 Q R hr eq q => ?_⟩
  unfold g_tup at eq
  split at eq
  · rename_i ds hs
    split at eq
    · rename_i hn
      obtain ⟨a, us, rfl, a1, a2⟩ := hr.seq hs
      rw [if_pos rfl] at a1
      exact ⟨a, us, rfl, R.sub.sqT a1, by rw [a2.length]; exact hn, o F hF us ds σ H H0 r r1 Q R a2 eq q⟩
    · cases eq
  · cases eq
theorem Io.fok {io : List Nat} (hF : Io F io) {vs : List Nat} (h : vs.all (fun v => !io.contains v) = true) : FOk F vs := fun p hp hm => by
  have := List.all_eq_true.mp h p.1 hm
  rw [Bool.not_eq_true'] at this
  exact hF.ne this p hp rfl
/-- a, b = e -/
def s_asg (gb : D → Rho → Option Rho) (m : EM D) : SM := fun r => (m r).seq fun d r => match gb d r with
  | some r => .nx r
  | none => .bad
theorem ms_asg {io vs : List Nat} {tg e : Expr} {gb : D → Rho → Option Rho} {m : EM D} (hF : Io F io) (he : PE X e (rdE X.K T F W m)) {g : TG} (hg : PGm X T vs tg g gb) (hio : vs.all (fun v => !io.contains v) = true := by rfl) (hs : swapsWithSole [tg] e pos.line X.env = pure false := by rfl) (hw : swappedStores [tg] e X.env = pure none := by rfl)
    (h1 : (assignEach [tg] X.env).map (·.2) = [assign tg X.env] := by rfl) : PS X (.Assign [tg] e pos) (rdS X.K T F W (s_asg gb m)) := by
  obtain ⟨p, o⟩ := hg
  refine ps_weak (ps_asg he p hs hw h1) fun E σ H ⟨r, H0, R, w⟩ => ⟨r, H0, R, WS.of w fun d r1 _ w1 v H' H0' R' s hv => ?_⟩
  cases hgb : gb d r1 with
  | none => rw [hgb] at w1; exact w1.elim
  | some r2 =>
    rw [hgb] at w1
    exact o F (hF.fok hio) v d σ H' H0' r1 r2 _ R' hv hgb fun σ' R2 _ _ => w1 σ' H' H0' R2 s
/-! ### for -/
def forD (gb : D → Rho → Option Rho) (body : SM) : List D → SM
  | [], r => .nx r
  | d :: ds, r => match gb d r with
    | none => .bad
    | some r1 => (match body r1 with
      | .nx r2 => forD gb body ds r2
      | .cnt r2 => forD gb body ds r2
      | .brk r2 => .nx r2
      | o => o)
def s_for (mi : EM (List D)) (gb : D → Rho → Option Rho) (body : SM) : SM := fun r => (mi r).seq fun ds r => forD gb body ds r
theorem ms_for {io vs : List Nat} (hF : Io F io) {tg it : Expr} {body : List Stmt} {mi : EM (List D)} {gb : D → Rho → Option Rho} {mb : SM} (hp : PassesOwn (model X.prog X.w) X.A X.env X.xe) (hc : X.calm = true) (hi : PI X tg it (rdI X.K T F W mi)) {g : TG} (hg : PGm X T vs tg g gb) (hb : PSs X body (rdS X.K T F W mb))
    (hs : ∀ x, foldedSetIterable it X.env x = pure x := by intro _; rfl) (hio : vs.all (fun v => !io.contains v) = true := by rfl) : PS X (.For tg it body [] pos) (rdS X.K T F W (s_for mi gb mb)) := by
  obtain ⟨p, o⟩ := hg
  refine ps_weak (ps_for hp hc hi p hb hs) fun E σ H ⟨r, H0, R, w⟩ => ⟨r, H0, R, WS.of w fun ds r1 _ w1 J H' H0' R' s hJ => ?_⟩
  refine ⟨fun i m σ1 H1 => m = ds.length - i ∧ i ≤ ds.length ∧ ∃ r2 H01, Rel X.K T F σ1 H1 H01 r2 ∧ Sub H0' H01 ∧ WS X.K T F W (forD gb mb (ds.drop i) r2) H01 E, ⟨_, rfl, Nat.zero_le _, r1, H0', R', Sub.refl _, w1.mono s⟩, ?_⟩
  rintro i m σ1 H1 ⟨rfl, hle, r2, H01, R2, s2, w2⟩
  by_cases hlt : i < ds.length
  · right
    have hd : ds[i]? = some ds[i] := List.getElem?_eq_getElem hlt
    obtain ⟨go, yl⟩ := (hJ H1 H01 s2 R2.sub i).1 _ hd
    refine ⟨go, fun σ' H' => i + 1 ≤ ds.length ∧ ∃ r2 H01, Rel X.K T F σ' H' H01 r2 ∧ Sub H0' H01 ∧ WS X.K T F W (forD gb mb (ds.drop (i + 1)) r2) H01 E, fun σ' H' q => ⟨_, by omega, rfl, q⟩, fun x H2 y => ?_⟩
    obtain ⟨H02, n⟩ := yl x H2 y
    obtain ⟨R3, s3, hx⟩ := R2.newOk n
    rw [List.drop_eq_getElem_cons hlt] at w2
    have w2 : WS X.K T F W (match gb ds[i] r2 with
      | none => .bad
      | some r1 => (match mb r1 with
        | .nx r2 => forD gb mb (ds.drop (i + 1)) r2
        | .cnt r2 => forD gb mb (ds.drop (i + 1)) r2
        | .brk r2 => .nx r2
        | o => o)) H01 E := w2
    cases hgb : gb ds[i] r2 with
    | none => rw [hgb] at w2; exact w2.elim
    | some r3 =>
      rw [hgb] at w2
      refine o F (hF.fok hio) x _ σ1 H2 H02 r2 r3 _ R3 hx hgb fun σ2 R4 _ _ => ⟨r3, H02, R4, ?_⟩
      have w3 := WS.mono s3 w2
      cases hmb : mb r3 with
      | nx r4 => simp only [hmb] at w3; exact fun σ' H' H0'' R5 s5 => ⟨hlt, r4, H0'', R5, (s2.trans s3).trans s5, w3.mono s5⟩
      | cnt r4 => simp only [hmb] at w3; exact fun σ' H' H0'' R5 s5 => ⟨hlt, r4, H0'', R5, (s2.trans s3).trans s5, w3.mono s5⟩
      | brk r4 => simp only [hmb] at w3; exact w3
      | rt v r4 => simp only [hmb] at w3; exact w3
      | exc c fs r4 => simp only [hmb] at w3; exact w3
      | bad => simp only [hmb] at w3; exact w3.elim
  · left
    have e : i = ds.length := by omega
    subst e
    rw [List.drop_length] at w2
    exact ⟨(hJ H1 H01 s2 R2.sub _).2 (List.getElem?_eq_none (Nat.le_refl _)), w2 σ1 H1 H01 R2 (Sub.refl _)⟩

/-! ### comprehensions -/
abbrev W0 : WX := fun _ _ _ _ => False
/-- the frame of a comprehension's turn: what stands, the lists of the frame's own -/
def wipeR (r : Rho) : List Nat → Rho
  | [] => r
  | v :: vs => (wipeR r vs).set v .un
def keepFz : Option Slot → Slot
  | some (.fz d) => .fz d
  | _ => .un
def restR (r r2 : Rho) : List Nat → Rho
  | [] => r2
  | v :: vs => (restR r r2 vs).set v (keepFz r[v]?)
theorem wipeR_len (r : Rho) : ∀ vs : List Nat, (wipeR r vs).length = r.length
  | [] => rfl
  | v :: vs => by unfold wipeR; rw [List.length_set, wipeR_len r vs]
theorem wipeR_get {r : Rho} {i : Nat} {s : Slot} : ∀ {vs : List Nat}, (wipeR r vs)[i]? = some s → (i ∈ vs ∧ s = .un) ∨ (i ∉ vs ∧ r[i]? = some s)
  | [], h => .inr ⟨by simp, h⟩
  | v :: vs, h => by
    unfold wipeR at h
    by_cases hv : i = v
    · subst hv
      have hl : i < (wipeR r vs).length := by
        have := (List.getElem?_eq_some_iff.mp h).1
        simpa using this
      rw [List.getElem?_set_self hl] at h
      cases h
      exact .inl ⟨by simp, rfl⟩
    · rw [List.getElem?_set_ne (Ne.symm hv)] at h
      rcases wipeR_get h with ⟨a, b⟩ | ⟨a, b⟩
      · exact .inl ⟨by simp [a], b⟩
      · exact .inr ⟨by simp [hv, a], b⟩
theorem restR_len (r r2 : Rho) : ∀ vs : List Nat, (restR r r2 vs).length = r2.length
  | [] => rfl
  | v :: vs => by unfold restR; rw [List.length_set, restR_len r r2 vs]
theorem restR_get {r r2 : Rho} {i : Nat} {s : Slot} : ∀ {vs : List Nat}, (restR r r2 vs)[i]? = some s → (i ∈ vs ∧ s = keepFz r[i]?) ∨ (i ∉ vs ∧ r2[i]? = some s)
  | [], h => .inr ⟨by simp, h⟩
  | v :: vs, h => by
    unfold restR at h
    by_cases hv : i = v
    · subst hv
      have hl : i < (restR r r2 vs).length := by
        have := (List.getElem?_eq_some_iff.mp h).1
        simpa using this
      rw [List.getElem?_set_self hl] at h
      cases h
      exact .inl ⟨by simp, rfl⟩
    · rw [List.getElem?_set_ne (Ne.symm hv)] at h
      rcases restR_get h with ⟨a, b⟩ | ⟨a, b⟩
      · exact .inl ⟨by simp [a], b⟩
      · exact .inr ⟨by simp [hv, a], b⟩
theorem wipe_get {σ : L2.St} {i : Nat} : ∀ {vs : List Nat}, i ∉ vs → (wipe σ vs)[i]? = σ[i]?
  | [], _ => rfl
  | v :: vs, h => by
    unfold wipe
    have h1 : i ≠ v := fun e => h (by simp [e])
    have h2 : i ∉ vs := fun e => h (by simp [e])
    rw [List.getElem?_set_ne (Ne.symm h1), wipe_get h2]
theorem wipe_len' (σ : L2.St) (vs : List Nat) : (L2.wipe σ vs).length = σ.length := wipe_length σ vs
/-- the value behind the slots, some others wiped -/
theorem Rel.wipe {σ : L2.St} {H H0 : Hp} {r : Rho} {u : Option V} {s : Slot} (R : Rel K T F (σ ++ [u]) H H0 (r ++ [s])) {vs : List Nat} (hl : σ.length = r.length) (pn : ∀ p ∈ F.R, p.1 < σ.length) (hp : ∀ p ∈ F.R, p.1 ∉ vs) : Rel K T F (L2.wipe σ vs ++ [u]) H H0 (wipeR r vs ++ [s]) := by
  have wl := wipe_len' σ vs
  refine R.pick (fun j => some j) (by simp [wl, wipeR_len, hl]) (fun j x e => ?_) (fun j k i h1 h2 => by cases h1; cases h2; rfl) fun p h => ?_
  · by_cases hj : j < r.length
    · rw [List.getElem?_append_left (by rw [wipeR_len]; exact hj)] at e
      rw [List.getElem?_append_left (by rw [wl, hl]; exact hj)]
      rcases wipeR_get e with ⟨_, rfl⟩ | ⟨a, b⟩
      · exact .inl ⟨rfl, trivial⟩
      · exact .inr ⟨j, rfl, by rw [List.getElem?_append_left hj]; exact b, by rw [wipe_get a, List.getElem?_append_left (by rw [hl]; exact hj)]⟩
    · have hj' := Nat.le_of_not_lt hj
      rw [List.getElem?_append_right (by rw [wipeR_len]; exact hj'), wipeR_len] at e
      rw [List.getElem?_append_right (by rw [wl, hl]; exact hj'), wl, hl]
      exact .inr ⟨j, rfl, by rw [List.getElem?_append_right hj']; exact e, by rw [List.getElem?_append_right (by rw [hl]; exact hj'), hl]⟩
  · have q := R.pins p h
    rw [List.getElem?_append_left (pn p h)] at q
    rw [List.getElem?_append_left (by rw [wl]; exact pn p h), wipe_get (hp p h)]
    exact q
/-- one turn: None (left out) or the element -/
def lcT (tt : EM Bool) (te : EM D) : EM (Option D) := fun r => (tt r).bind fun b r => if b = true then (te r).bind fun y r => .ok (some y) r else .ok none r
def lcD (vs : List Nat) (gb : D → Rho → Option Rho) (tt : EM Bool) (te : EM D) : List D → List D → EM (List D)
  | [], acc, r => .ok acc r
  | d :: ds, acc, r => match gb d (wipeR r vs) with
    | none => .bad
    | some r1 => (match lcT tt te r1 with
      | .ok (some y) r3 => if acc.length < SZ then lcD vs gb tt te ds (acc ++ [y]) (restR r r3 vs) else .bad
      | .ok none r3 => lcD vs gb tt te ds acc (restR r r3 vs)
      | _ => .bad)
def l_lc (vs : List Nat) (mi : EM (List D)) (gb : D → Rho → Option Rho) (tt : EM Bool) (te : EM D) : EM (List D) := fun r => (mi r).bind fun ds r => lcD vs gb tt te ds [] r
def t_yes : EM Bool := fun r => .ok true r
theorem wipe_in {σ : L2.St} {j : Nat} : ∀ {vs : List Nat}, j ∈ vs → (L2.wipe σ vs)[j]? = if j < σ.length then some none else none
  | [], h => by simp at h
  | v :: vs, h => by
    unfold L2.wipe
    by_cases hv : v = j
    · subst hv
      by_cases hl : v < σ.length
      · rw [List.getElem?_set_self (by rw [wipe_length]; exact hl), if_pos hl]
      · rw [if_neg hl, List.getElem?_eq_none (by rw [List.length_set, wipe_length]; omega)]
    · rw [List.getElem?_set_ne hv]
      refine wipe_in ?_
      rcases List.mem_cons.mp h with e | e
      · exact absurd e.symm hv
      · exact e
theorem wipe_ext {σ σ2 : L2.St} {vs : List Nat} (hl : σ2.length = σ.length) (h : ∀ j : Nat, j ∉ vs → σ2[j]? = (L2.wipe σ vs)[j]?) : L2.wipe σ2 vs = L2.wipe σ vs := by
  refine List.ext_getElem? fun j => ?_
  by_cases hj : j ∈ vs
  · rw [wipe_in hj, wipe_in hj, hl]
  · rw [wipe_get hj, h j hj]
/-- the turn is over: the frame's names are as before -/
theorem Rel.turned {σ σ2 : L2.St} {H H0 H' H0' : Hp} {r r4 : Rho} {u : Option V} {s s' : Slot} {vs : List Nat} (R : Rel K T F (σ ++ [u]) H H0 (r ++ [s])) (hl : σ.length = r.length) (pn : ∀ p ∈ F.R, p.1 < σ.length) (R4 : Rel K T F (σ2 ++ [u]) H' H0' (r4 ++ [s'])) (sb : Sub H0 H0') (hs : ∀ j : Nat, j ∉ vs → σ2[j]? = (L2.wipe σ vs)[j]?) (l2 : σ2.length = σ.length) :
    Rel K T F (σ ++ [u]) H' H0' (restR r r4 vs ++ [s']) := by
  have l4 : r4.length = r.length := by rw [← R4.lenL, l2, hl]
  refine R4.pick (fun j => some j) (by simp [restR_len, l4, hl]) (fun j x e => ?_) (fun j k i h1 h2 => by cases h1; cases h2; rfl) fun p h => R.pins p h
  by_cases hj : j < r.length
  · rw [List.getElem?_append_left (by rw [restR_len, l4]; exact hj)] at e
    rw [List.getElem?_append_left (by rw [hl]; exact hj)]
    rcases restR_get e with ⟨a, rfl⟩ | ⟨a, b⟩
    · left
      cases q : r[j]? with
      | none => exact ⟨rfl, trivial⟩
      | some w =>
        cases w with
        | fz d =>
          refine ⟨rfl, ?_⟩
          obtain ⟨v, b1, b2⟩ := R.var (i := j) (d := d) (by rw [List.getElem?_append_left hj]; exact q)
          rw [List.getElem?_append_left (by rw [hl]; exact hj)] at b1
          exact ⟨v, b1, b2.mono sb⟩
        | _ => exact ⟨rfl, trivial⟩
    · exact .inr ⟨j, rfl, by rw [List.getElem?_append_left (by rw [l4]; exact hj)]; exact b, by rw [List.getElem?_append_left (by rw [l2, hl]; exact hj), hs j a, wipe_get a]⟩
  · have hj' := Nat.le_of_not_lt hj
    rw [List.getElem?_append_right (by rw [restR_len, l4]; exact hj'), restR_len, l4] at e
    rw [List.getElem?_append_right (by rw [hl]; exact hj'), hl]
    exact .inr ⟨j, rfl, by rw [List.getElem?_append_right (by rw [l4]; exact hj'), l4]; exact e, by rw [List.getElem?_append_right (by rw [l2, hl]; exact hj'), l2, hl]⟩
theorem Rel.lastOwn {σ : L2.St} {H H0 : Hp} {r : Rho} {a : Addr} {ds : List D} (R : Rel K T F (σ ++ [some (.ref a)]) H H0 (r ++ [.own ds])) : ∃ vs, H a = some (.lst vs) ∧ Reps K T H0 vs ds := by
  have l := R.lenL
  obtain ⟨a', vs, e, h1, h2, h3⟩ := R.own (i := r.length) (ds := ds) (by rw [List.getElem?_append_right (Nat.le_refl _), Nat.sub_self]; rfl)
  rw [List.getElem?_append_right (by rw [l]; exact Nat.le_refl _), l, Nat.sub_self] at e
  cases e
  exact ⟨vs, h1, h3⟩
theorem Rel.lastChange {σ : L2.St} {H H0 : Hp} {r : Rho} {a : Addr} {ds ds' : List D} {vs' : List V} (R : Rel K T F (σ ++ [some (.ref a)]) H H0 (r ++ [.own ds])) (h : Reps K T H0 vs' ds') : Rel K T F (σ ++ [some (.ref a)]) (upd H a (.lst vs')) H0 (r ++ [.own ds']) := by
  have l := R.lenL
  have q := R.change (k := r.length) (a := a) (ds := ds) (ds' := ds') (by rw [List.getElem?_append_right (Nat.le_refl _), Nat.sub_self]; rfl) (by rw [List.getElem?_append_right (by rw [l]; exact Nat.le_refl _), l, Nat.sub_self]; rfl) h
  rw [List.set_append_right _ _ (Nat.le_refl _), Nat.sub_self] at q
  exact q
theorem rd_lc {vs : List Nat} {mi : EM (List D)} {gb : D → Rho → Option Rho} {tt : EM Bool} {te : EM D} {g : TG} {tT : TT} {tE : TE} {io : List Nat} (hF : Io F io) (hio : vs.all (fun v => !io.contains v) = true)
    (hg : ∀ F', FOk F' vs → GOk K T F' vs g gb) (ht : ∀ F' σ H Q, rdT K T F' W0 tt σ H Q → tT σ H Q) (he : ∀ F' σ H Q, rdE K T F' W0 te σ H Q → tE σ H Q) {σ : L2.St} {H : Hp} {Q : VK} (h : rdL K T F W (l_lc vs mi gb tt te) σ H Q) :
    tLc (rdI K T F W mi) g tT tE vs σ H Q := by
  obtain ⟨r, H0, R, w⟩ := h
  have hp := hF.fok hio
  have pn := R.pinLt
  refine ⟨r, H0, R, WG.bind w fun ds r1 _ w1 J H' H0' R' s hJ Dd hD => ?_⟩
  refine ⟨fun i m H1 => m = ds.length - i ∧ i ≤ ds.length ∧ ∃ r2 H01 acc, Rel K T F (σ ++ [some (.ref Dd)]) H1 H01 (r2 ++ [.own acc]) ∧ Sub H0' H01 ∧
    WG K T F W (lcD vs gb tt te (ds.drop i) acc r2) σ H0 _, ⟨_, rfl, Nat.zero_le _, r1, H0', [], R'.newL ⟨Dd, [], hD, rfl, rfl, .nil⟩, Sub.refl _, w1⟩, ?_⟩
  rintro i m H1 ⟨rfl, hle, r2, H01, acc, R2, s2, w2⟩
  have hl := R2.lenL
  by_cases hlt : i < ds.length
  · right
    have hdi : ds[i]? = some ds[i] := List.getElem?_eq_getElem hlt
    obtain ⟨go, yl⟩ := (hJ H1 H01 s2 R2.sub i).1 _ hdi
    refine ⟨go, fun H' => i + 1 ≤ ds.length ∧ ∃ r2 H01 acc, Rel K T F (σ ++ [some (.ref Dd)]) H' H01 (r2 ++ [.own acc]) ∧ Sub H0' H01 ∧
      WG K T F W (lcD vs gb tt te (ds.drop (i + 1)) acc r2) σ H0 _, fun H' q => ⟨_, by omega, rfl, q⟩, fun x H2 y => ?_⟩
    obtain ⟨H02, n⟩ := yl x H2 y
    obtain ⟨R3, s3, hx⟩ := R2.newOk n
    have Rw := R3.wipe hl pn hp
    obtain ⟨Fh, _, fR, RH, back, _⟩ := Rw.hide (by rw [wipe_len', wipeR_len]; exact hl)
    have fok : FOk Fh vs := fun p hpm => by rw [fR] at hpm; cases hpm
    rw [List.drop_eq_getElem_cons hlt] at w2
    have w2 : WG K T F W (match gb ds[i] (wipeR r2 vs) with
      | none => .bad
      | some r1 => (match lcT tt te r1 with
        | .ok (some y) r3 => if acc.length < SZ then lcD vs gb tt te (ds.drop (i + 1)) (acc ++ [y]) (restR r2 r3 vs) else .bad
        | .ok none r3 => lcD vs gb tt te (ds.drop (i + 1)) acc (restR r2 r3 vs)
        | _ => .bad)) σ H0 _ := w2
    cases hgb : gb ds[i] (wipeR r2 vs) with
    | none => rw [hgb] at w2; exact w2.elim
    | some r3 =>
      rw [hgb] at w2
      refine hg _ fok x _ _ H2 H02 _ r3 _ RH hx hgb fun σ2 R4 hs2 ln0 => ?_
      have ln : σ2.length = σ.length := ln0.trans (wipe_length σ vs)
      refine ⟨wipe_ext ln hs2, ?_⟩
      -- back in the frame
      have home : ∀ (r4 : Rho) (H4 H04 : Hp), Rel K T Fh σ2 H4 H04 r4 → Rel K T F (σ ++ [some (.ref Dd)]) H4 H04 (restR r2 r4 vs ++ [.own acc]) ∧ Sub H02 H04 := fun r4 H4 H04 R5 => by
        obtain ⟨R6, s6⟩ := back σ2 H4 H04 r4 R5 fun p h => by
          rw [List.getElem?_append_left (by rw [ln]; exact pn p h), hs2 _ (hp p h), wipe_get (hp p h)]
          exact R.pins p h
        exact ⟨R3.turned hl pn R6 s6 hs2 ln, s6⟩
      dsimp only at w2
      unfold lcT at w2
      cases htt : tt r3 with
      | exc c fs r4 => rw [htt] at w2; exact w2.elim
      | bad => rw [htt] at w2; exact w2.elim
      | ok b r4 =>
        rw [htt] at w2
        refine ht _ _ _ _ ⟨r3, H02, R4, ?_⟩
        rw [htt]
        intro H4 H04 R5 s5
        cases b with
        | false =>
          simp only [EO.bind, Bool.false_eq_true, if_false] at w2
          obtain ⟨k1, k2⟩ := home r4 H4 H04 R5
          exact iteF ⟨hlt, restR r2 r4 vs, H04, acc, k1, (s2.trans s3).trans s5, w2⟩
        | true =>
          refine iteT (he _ _ _ _ ⟨r4, H04, R5, ?_⟩)
          cases hte : te r4 with
          | exc c fs r5 => simp only [EO.bind, if_true, hte] at w2; exact w2.elim
          | bad => simp only [EO.bind, if_true, hte] at w2; exact w2.elim
          | ok y r5 =>
            simp only [EO.bind, if_true, hte] at w2
            intro v H5 H05 R6 s6 hv
            obtain ⟨k1, k2⟩ := home r5 H5 H05 R6
            obtain ⟨accV, e1, e2⟩ := k1.lastOwn
            by_cases hz : acc.length < SZ
            · rw [if_pos hz] at w2
              exact ⟨accV, e1, by rw [e2.length, ← SZ_eq]; exact hz, hlt, restR r2 r5 vs, H05, acc ++ [y], k1.lastChange (e2.append (.one hv)), (s2.trans s3).trans (s5.trans s6), w2⟩
            · rw [if_neg hz] at w2; exact w2.elim
  · left
    have e : i = ds.length := by omega
    subst e
    rw [List.drop_length] at w2
    exact ⟨(hJ H1 H01 s2 R2.sub _).2 (List.getElem?_eq_none (Nat.le_refl _)), w2 (.ref Dd) H1 H01 R2 (s.trans s2)⟩
end
end Ml
set_option Elab.async false
set_option linter.all false
set_option maxRecDepth 100000
set_option maxHeartbeats 4000000
/-! Ml10: comprehensions as expressions, slices, methods of texts, f-strings, more built-ins. -/
namespace Ml
open PySem L2
section
variable {K : PySem.W.Frag} {T : Tab} {F : Fc} {W : WX} {X : Cx} {pos : Pos} {H H0 : Hp} {m : EM D} {ma mb : EM AD}
/-! ### comprehensions -/
theorem pts_weak {l : List Expr} {t t' : TT} (p : PTs X l t) (h : ∀ σ H Q, t' σ H Q → t σ H Q) : PTs X l t' := ⟨fun pins s σ H Q I q => p.run pins s σ H Q I (h σ H Q q)⟩
def exT (K : PySem.W.Frag) (T : Tab) (m : EM Bool) : TT := fun σ H Q => ∃ F', rdT K T F' W0 m σ H Q
def exE (K : PySem.W.Frag) (T : Tab) (m : EM D) : TE := fun σ H Q => ∃ F', rdE K T F' W0 m σ H Q
theorem pe_ex {e : Expr} {m : EM D} (p : ∀ F', PE X e (rdE K T F' W0 m)) : PE X e (exE K T m) := ⟨fun pins s σ H Q I ⟨F', h⟩ => (p F').run pins s σ H Q I h⟩
theorem pts_ex {l : List Expr} {m : EM Bool} (p : ∀ F', PTs X l (rdT K T F' W0 m)) : PTs X l (exT K T m) := ⟨fun pins s σ H Q I ⟨F', h⟩ => (p F').run pins s σ H Q I h⟩
theorem mts_nil : PTs X [] (rdT K T F W t_yes) := pts_weak pts_nil fun σ H Q ⟨r, H0, R, w⟩ => w H H0 R (Sub.refl _)
theorem mts_one {c : Expr} {mc : EM Bool} (h : PT X c (rdT K T F W mc)) : PTs X [c] (rdT K T F W mc) := pts_one h
theorem ml_lc {io : List Nat} (hF : Io F io) {elt tg iter : Expr} {ifs : List Expr} {scope : Scope} (own : List (Str × Nat)) {mi : EM (List D)} {g : TG} {gb : D → Rho → Option Rho} {tt : EM Bool} {te : EM D} (hc : X.calm = true) (hN : X.N.Nodup) (hi : PI X tg iter (rdI X.K T F W mi)) (ok : BlkOk X.N X.env.scope scope own)
    (hg : ∀ (s : Shared) (H : Hp) (C : Addr) (cl : List (Str × Addr)) (fp : List Addr), PGm (X.blk s H scope (compEnvC scope cl C X.env) fp) T (own.map (·.2)) tg g gb)
    (ht : ∀ (F' : Fc) (s : Shared) (H : Hp) (C : Addr) (cl : List (Str × Addr)) (fp : List Addr), PTs (X.blk s H scope (compEnvC scope cl C X.env) fp) ifs (rdT X.K T F' W0 tt))
    (he : ∀ (F' : Fc) (s : Shared) (H : Hp) (C : Addr) (cl : List (Str × Addr)) (fp : List Addr), PE (X.blk s H scope (compEnvC scope cl C X.env) fp) elt (rdE X.K T F' W0 te)) (hs : ∀ x, foldedSetIterable iter X.env x = pure x := by intro _; rfl) (hio : (own.map (·.2)).all (fun v => !io.contains v) = true := by rfl)
    (s0 : Shared) : PE X (.ListComp elt [⟨tg, iter, ifs, 0⟩] scope pos) (rdL X.K T F W (l_lc (own.map (·.2)) mi gb tt te)) :=
  pe_weak (pe_lc hc hN hi ok (fun s H C cl fp => (hg s H C cl fp).1) (fun s H C cl fp => pts_ex fun F' => ht F' s H C cl fp) (fun s H C cl fp => pe_ex fun F' => he F' s H C cl fp) hs) fun σ H Q h =>
    rd_lc hF hio ((hg s0 H 0 [] []).2) (fun F' _ _ _ h => ⟨F', h⟩) (fun F' _ _ _ h => ⟨F', h⟩) h
/-- y = [..] on one line, y a local -/
theorem ms_setLc {io : List Nat} (hF : Io F io) (i : Nat) {y : Str} {py spos : Pos} {elt tg iter : Expr} {ifs : List Expr} {scope : Scope} (own : List (Str × Nat)) {mi : EM (List D)} {g : TG} {gb : D → Rho → Option Rho} {tt : EM Bool} {te : EM D} (hc : X.calm = true) (hN : X.N.Nodup) (hsw : swapsWith (.ListComp elt [⟨tg, iter, ifs, 0⟩] scope pos) (some (.Name y py)) spos.line X.env = pure true)
    (hi : PI X tg iter (rdI X.K T F W mi)) (ok : BlkOk X.N X.env.scope scope own)
    (hg : ∀ (s : Shared) (H : Hp) (C : Addr) (cl : List (Str × Addr)) (fp : List Addr), PGm (X.blk s H scope (compEnvC scope cl C X.env) fp) T (own.map (·.2)) tg g gb)
    (ht : ∀ (F' : Fc) (s : Shared) (H : Hp) (C : Addr) (cl : List (Str × Addr)) (fp : List Addr), PTs (X.blk s H scope (compEnvC scope cl C X.env) fp) ifs (rdT X.K T F' W0 tt))
    (he : ∀ (F' : Fc) (s : Shared) (H : Hp) (C : Addr) (cl : List (Str × Addr)) (fp : List Addr), PE (X.blk s H scope (compEnvC scope cl C X.env) fp) elt (rdE X.K T F' W0 te)) (s0 : Shared) (hy : X.N[i]? = some y := by rfl) (hyl : X.env.scope.names.lookup y = some .local := by rfl) (hs : ∀ x, foldedSetIterable iter X.env x = pure x := by intro _; rfl)
    (hio : (own.map (·.2)).all (fun v => !io.contains v) = true := by rfl) (hi2 : io.contains i = false := by rfl) : PS X (.Assign [.Name y py] (.ListComp elt [⟨tg, iter, ifs, 0⟩] scope pos) spos) (rdS X.K T F W (s_own i (l_lc (own.map (·.2)) mi gb tt te))) :=
  ps_weak (L2.ps_setLc hc hN hy hyl hsw hi ok (fun s H C cl fp => (hg s H C cl fp).1) (fun s H C cl fp => pts_ex fun F' => ht F' s H C cl fp) (fun s H C cl fp => pe_ex fun F' => he F' s H C cl fp) hs) fun E σ H h =>
    rd_lc hF hio ((hg s0 H 0 [] []).2) (fun F' _ _ _ h => ⟨F', h⟩) (fun F' _ _ _ h => ⟨F', h⟩) (rd_own hF hi2 h)
/-- .. kept as data -/
theorem rd_setF {io : List Nat} (hF : Io F io) {i : Nat} (hi : io.contains i = false) {ml : EM (List D)} {E : Ends} {σ : L2.St} {H : Hp} (h : rdS K T F W (s_set i (e_lst ml)) E σ H) : rdL K T F W ml σ H fun x H1 => gName i x σ H1 E.nx := by
  obtain ⟨r, H0, R, w⟩ := rd_set hF hi h
  exact ⟨r, H0, R, WG.bind w fun ds r1 _ w1 v H' H0' R' s => by
    obtain ⟨H02, s2, R2, h2⟩ := R'.frz R'.lenL R.pinLt (t := .lst (ds.map .fz)) (d := .lst ds) rfl (by unfold O.data; rw [datas_fz]; rfl)
    exact w1 v H' H02 R2 (s.trans s2) h2⟩
theorem ms_setLcF {io : List Nat} (hF : Io F io) (i : Nat) {y : Str} {py spos : Pos} {elt tg iter : Expr} {ifs : List Expr} {scope : Scope} (own : List (Str × Nat)) {mi : EM (List D)} {g : TG} {gb : D → Rho → Option Rho} {tt : EM Bool} {te : EM D} (hc : X.calm = true) (hN : X.N.Nodup) (hsw : swapsWith (.ListComp elt [⟨tg, iter, ifs, 0⟩] scope pos) (some (.Name y py)) spos.line X.env = pure true)
    (hi : PI X tg iter (rdI X.K T F W mi)) (ok : BlkOk X.N X.env.scope scope own)
    (hg : ∀ (s : Shared) (H : Hp) (C : Addr) (cl : List (Str × Addr)) (fp : List Addr), PGm (X.blk s H scope (compEnvC scope cl C X.env) fp) T (own.map (·.2)) tg g gb)
    (ht : ∀ (F' : Fc) (s : Shared) (H : Hp) (C : Addr) (cl : List (Str × Addr)) (fp : List Addr), PTs (X.blk s H scope (compEnvC scope cl C X.env) fp) ifs (rdT X.K T F' W0 tt))
    (he : ∀ (F' : Fc) (s : Shared) (H : Hp) (C : Addr) (cl : List (Str × Addr)) (fp : List Addr), PE (X.blk s H scope (compEnvC scope cl C X.env) fp) elt (rdE X.K T F' W0 te)) (s0 : Shared) (hy : X.N[i]? = some y := by rfl) (hyl : X.env.scope.names.lookup y = some .local := by rfl) (hs : ∀ x, foldedSetIterable iter X.env x = pure x := by intro _; rfl)
    (hio : (own.map (·.2)).all (fun v => !io.contains v) = true := by rfl) (hi2 : io.contains i = false := by rfl) : PS X (.Assign [.Name y py] (.ListComp elt [⟨tg, iter, ifs, 0⟩] scope pos) spos) (rdS X.K T F W (s_set i (e_lst (l_lc (own.map (·.2)) mi gb tt te)))) :=
  ps_weak (L2.ps_setLc hc hN hy hyl hsw hi ok (fun s H C cl fp => (hg s H C cl fp).1) (fun s H C cl fp => pts_ex fun F' => ht F' s H C cl fp) (fun s H C cl fp => pe_ex fun F' => he F' s H C cl fp) hs) fun E σ H h =>
    rd_lc hF hio ((hg s0 H 0 [] []).2) (fun F' _ _ _ h => ⟨F', h⟩) (fun F' _ _ _ h => ⟨F', h⟩) (rd_setF hF hi2 h)
/-! ### lists of the frame's own as data, handed back -/
def e_frz (i : Nat) : EM D := fun r => match r[i]? with
  | some (.own ds) => .ok (.lst ds) (r.set i (.fz (.lst ds)))
  | some (.fz d) => .ok d r
  | _ => .bad
theorem me_frz {io : List Nat} (hF : Io F io) {e : Expr} (i : Nat) (p : PE X e (tVar i)) (hio : io.contains i = false := by rfl) : PE X e (rdE K T F W (e_frz i)) := pe_weak p fun σ H Q ⟨r, H0, R, w⟩ => by
  unfold e_frz at w
  split at w
  · rename_i ds e
    obtain ⟨v, H0', e1, R', s, h⟩ := R.frzAt (hF.ne hio) e (t := .lst (ds.map .fz)) (d := .lst ds) rfl (by unfold O.data; rw [datas_fz]; rfl)
    exact ⟨_, e1, w _ H H0' R' s h⟩
  · rename_i d e
    obtain ⟨v, e1, h⟩ := R.var e
    exact ⟨v, e1, w v H H0 R (Sub.refl _) h⟩
  · exact w.elim
/-- an object, a tree of the frame's own as data, from now on -/
def e_frzO (fl : Nat → Nat) (i : Nat) : EM D := fun r => match r[i]? with
  | some s => (match tree s with
    | some t => (match O.data fl t with
      | some d => .ok d (r.set i (.fz d))
      | none => .bad)
    | none => .bad)
  | none => .bad
theorem me_frzO {io : List Nat} (hF : Io F io) {e : Expr} (i : Nat) (p : PE X e (tVar i)) (hio : io.contains i = false := by rfl) : PE X e (rdE K T F W (e_frzO (fun c => (T.flds c).length) i)) := pe_weak p fun σ H Q ⟨r, H0, R, w⟩ => by
  unfold e_frzO at w
  cases e : r[i]? with
  | none => rw [e] at w; exact w.elim
  | some s =>
    rw [e] at w
    cases et : tree s with
    | none => simp only [et] at w; exact w.elim
    | some t =>
      simp only [et] at w
      cases ed : O.data (fun c => (T.flds c).length) t with
      | none => simp only [ed] at w; exact w.elim
      | some d =>
        simp only [ed] at w
        obtain ⟨v, H0', e1, R', s, h⟩ := R.frzAt (hF.ne hio) e et ed
        exact ⟨_, e1, w _ H H0' R' s h⟩
/-- x, a value of the frame's own: handed on, the name forgotten -/
def v_take (i : Nat) : EM Slot := fun r => match r[i]? with
  | some (.fz d) => .ok (.fz d) r
  | some s => if isOwn s = true then .ok s (r.set i .un) else .bad
  | none => .bad
theorem mv_take {e : Expr} (i : Nat) (p : PE X e (tVar i)) : PE X e (rdV K T F W (v_take i)) := pe_weak p fun σ H Q ⟨r, H0, R, w⟩ => by
  unfold v_take at w
  cases e : r[i]? with
  | none => rw [e] at w; exact w.elim
  | some s =>
    have go : isOwn s = true → WG K T F W (.ok s (r.set i .un)) σ H0 (fun s r' => ∀ v H' H0', Rel K T F (σ ++ [some v]) H' H0' (r' ++ [s]) → Sub H0 H0' → Q v H') → tVar i σ H Q := fun o w => by
      obtain ⟨a, u, q1, _⟩ := R.ownAt e o
      exact ⟨_, q1, w _ H H0 (R.pull e q1) (Sub.refl _)⟩
    rw [e] at w
    cases s with
    | fz d =>
      obtain ⟨v, e1, h⟩ := R.var e
      exact ⟨v, e1, w v H H0 (R.pushFz h) (Sub.refl _)⟩
    | own ds => exact go rfl w
    | obj c ds => exact go rfl w
    | un => exact w.elim
    | exv c ds => exact w.elim
    | tr t =>
      cases t with
      | fz d => exact w.elim
      | lst ts => exact go rfl w
      | tup ts => exact go rfl w
      | obj c ts => exact go rfl w
/-- return x, x a list of the frame's own -/
def s_retO (i : Nat) : SM := s_retV (v_take i)
theorem ms_retO {e : Expr} (i : Nat) (p : PE X e (tVar i)) : PS X (.Return (some e) pos) (rdS K T F W (s_retO i)) := ms_retV (mv_take i p)
/-! ### slices -/
def cutD (ds : List D) (lo hi : Option Int) : List D := (ds.drop (HT.sIx ds.length 0 lo)).take (HT.sIx ds.length ds.length hi - HT.sIx ds.length 0 lo)
theorem Reps.cut {vs : List V} {ds : List D} (h : Reps K T H vs ds) (lo hi : Option Int) : Reps K T H (cutV vs lo hi) (cutD ds lo hi) := by
  unfold cutV cutD
  rw [h.length]
  exact (h.drop _).take _
def f_slice (d : D) (lo hi : Option Int) : Option D := match d with
  | .str z => if z.length ≤ SZ then some (.str (cutS z lo hi)) else none
  | .lst ds => some (.lst (cutD ds lo hi))
  | .tup ds => if HT.sIx ds.length 0 lo = 0 ∧ HT.sIx ds.length ds.length hi = ds.length then none else some (.tup (cutD ds lo hi))
  | .ro false ds => some (.lst (cutD ds lo hi))
  | _ => none
abbrev EMo := Rho → EO (Option Int)
def rdO (K : PySem.W.Frag) (T : Tab) (F : Fc) (W : WX) (m : EMo) : TO := fun σ H Q => ∃ r H0, Rel K T F σ H H0 r ∧ WG K T F W (m r) σ H0 fun o r' => ∀ H' H0', Rel K T F σ H' H0' r' → Sub H0 H0' → Q o H'
def p_no : EMo := fun r => .ok none r
def p_at (m : EM D) : EMo := fun r => (m r).bind fun d r => match d with
  | .int i => .ok (some i) r
  | _ => .bad
theorem po_weak {e : Option Expr} {t t' : TO} (p : PO X e t) (h : ∀ σ H Q, t' σ H Q → t σ H Q) : PO X e t' := ⟨fun pins s σ H Q I q => p.run pins s σ H Q I (h σ H Q q)⟩
theorem mo_no : PO X none (rdO K T F W p_no) := po_weak po_none fun σ H Q ⟨r, H0, R, w⟩ => w H H0 R (Sub.refl _)
theorem mo_at {e : Expr} (p : PE X e (rdE K T F W m)) : PO X (some e) (rdO K T F W (p_at m)) := po_weak (po_some p) fun σ H Q ⟨r, H0, R, w⟩ => by
  refine ⟨r, H0, R, WG.bind w fun d r1 _ w1 v H' H0' R' s hv => ?_⟩
  cases hv with
  | int i => exact ⟨i, rfl, w1 H' H0' R' s⟩
  | _ => exact w1.elim
def e_slice (ma : EM AD) (ml mh : EMo) : EM D := fun r => (ma r).bind fun x r => (ml r).bind fun lo r => (mh r).bind fun hi r => match res r x with
  | some d => EO.opt (f_slice d lo hi) r
  | none => .bad
def rSlA (K : PySem.W.Frag) : V → Option Int → Option Int → Hp → VK → Prop := fun x lo hi H Q => rSlS x lo hi H Q ∨ rSlL K x lo hi H Q ∨ rSlT K x lo hi H Q
theorem sl_all : SlR X (rSlA X.K) := SlR.or sl_str (SlR.or sl_list sl_tup)
theorem me_slice {e : Expr} {lo hi : Option Expr} {p2 : Pos} {ml mh : EMo} (he : PE X e (rdP X.K T F W ma)) (hl : PO X lo (rdO X.K T F W ml)) (hh : PO X hi (rdO X.K T F W mh)) : PE X (.Subscript e (.Slice lo hi none p2) pos) (rdE X.K T F W (e_slice ma ml mh)) :=
  pe_weak (pe_slice sl_all he hl hh) fun σ H Q ⟨r, H0, R, w⟩ => by
    refine ⟨r, H0, R, WG.bind w fun x r1 _ w1 v H1 H01 R1 s1 hv => ⟨r1, H01, R1, WG.bind (w1.mono s1) fun lo r2 _ w2 H2 H02 R2 s2 => ⟨r2, H02, R2, WG.bind (w2.mono s2) fun hi r3 _ w3 H3 H03 R3 s3 => ?_⟩⟩⟩
    cases hx : res r3 x with
    | none => simp only [hx] at w3; exact w3.elim
    | some d =>
      simp only [hx] at w3
      obtain ⟨z, hz, w4⟩ := WG.opt w3
      have hE := R3.res ((hv.mono s2).mono s3) hx
      have fin : ∀ v H' H0', NewOk X.K T H3 H03 z v H' H0' → Q v H' := fun v H' H0' n => by
        obtain ⟨R4, s4, h4⟩ := R3.newOk n
        exact w4 v H' H0' R4 (((s1.trans s2).trans s3).trans s4) h4
      cases d with
      | str y =>
        have hz : (if y.length ≤ SZ then some (D.str (cutS y lo hi)) else none) = some z := hz
        split at hz
        · rename_i hy; cases hz; exact .inl ⟨y, hE.str', by rw [← SZ_eq]; exact hy, fin _ _ _ (.sc (.str _))⟩
        · cases hz
      | lst ds =>
        cases hz
        obtain ⟨a, vs, rfl, a1, a2⟩ := hE.lst' R3.sub
        exact .inr (.inl ⟨a, vs, rfl, SqL.of a1, fun p hp => fin _ _ _ (.lst R3.sub hp (a2.cut lo hi))⟩)
      | tup ds =>
        have hz : (if HT.sIx ds.length 0 lo = 0 ∧ HT.sIx ds.length ds.length hi = ds.length then none else some (D.tup (cutD ds lo hi))) = some z := hz
        split at hz
        · cases hz
        · rename_i hn
          cases hz
          obtain ⟨a, vs, rfl, a1, a2⟩ := hE.tup'
          exact .inr (.inr ⟨a, vs, rfl, SqT.of (R3.sub _ _ a1), by rw [a2.length]; exact hn, fun p hp => fin _ _ _ (.tup R3.sub hp (a2.cut lo hi))⟩)
      | ro b ds =>
        cases b with
        | true => cases hz
        | false =>
          cases hz
          obtain ⟨a, vs, rfl, a1, a2⟩ := hE.seq R3.sub rfl
          rw [if_neg Bool.false_ne_true] at a1
          exact .inr (.inl ⟨a, vs, rfl, a1, fun p hp => fin _ _ _ (.lst R3.sub hp (a2.cut lo hi))⟩)
      | _ => cases hz
/-! ### methods of texts -/
def e_sm (f : Str → List D → Option D) (m : EM D) (mas : EM (List AD)) : EM D := fun r => (m r).bind fun x r => match x with
  | .str s => (mas r).bind fun as r => (match ress r as with
    | some ds => EO.opt (f s ds) r
    | none => .bad)
  | _ => .bad
def OpSm (K : PySem.W.Frag) (T : Tab) (rr : V → List V → Hp → VK → Prop) (f : Str → List D → Option D) : Prop := ∀ x xs ds z H H0, Sub H0 H → RepEs K T H H0 xs ds → f x ds = some z → ∀ Q : VK, (∀ v H' H0', NewOk K T H H0 z v H' H0' → Q v H') → rr (.str x) xs H Q
theorem me_sm {id : String} {name : Str} {rr : V → List V → Hp → VK → Prop} {f : Str → List D → Option D} {o e : Expr} {es : List Expr} {mas : EM (List AD)} {apos : Pos} (slot : PySem.Slot "str" name id) (hty : typeOf (.builtin id) = pure (.type "method_descriptor")) (hm : MtR X id rr) (hmm : OpSm X.K T rr f) (ho : PE X o (rdE X.K T F W m)) (ha : PA X (e :: es) (rdA X.K T F W mas))
    (hbase : attributeBase o name X.env (eval o X.env) = eval o X.env := by rfl)
    (hfew : ((backTo pos (starEach (e :: es) X.env)).all (fun x => !x.1) && (backToKw pos (keywordEach [] X.env)).all (fun x => x.1.isSome)
      && decide ((e :: es).length + ([] : List Keyword).length + (if ([] : List Keyword).isEmpty then 0 else 1) < 30)) = true := by rfl)
    (hline : (apos.endLine == pos.line) = true := by rfl) (hs : starEach (e :: es) X.env = (false, eval e X.env) :: starEach es X.env := by rfl) (hplain : (backTo pos (starEach es X.env)).any (·.1) = false := by rfl) :
    PE X (.Call (.Attribute o name apos) (e :: es) [] pos) (rdE X.K T F W (e_sm f m mas)) :=
  pe_weak (pe_bm PySem.F.plainAttrs_str slot hty hm ho ha hbase hfew hline hs hplain) fun σ H Q ⟨r, H0, R, w⟩ => by
    refine ⟨r, H0, R, WG.bind w fun x r1 _ w1 v H1 H01 R1 s1 hv => ?_⟩
    cases hv with
    | str x =>
      refine ⟨rfl, r1, H01, R1, WG.bind (w1.mono s1) fun as r2 _ w2 vs H2 H02 R2 s2 hvs => ?_⟩
      cases hx : ress r2 as with
      | none => simp only [hx] at w2; exact w2.elim
      | some ds =>
        simp only [hx] at w2
        obtain ⟨z, hz, w3⟩ := WG.opt w2
        refine hmm x vs ds z H2 H02 R2.sub (R2.ress hvs hx) hz Q fun v' H3 H03 n => ?_
        obtain ⟨R3, s3, h3⟩ := R2.newOk n
        exact w3 v' H3 H03 R3 ((s1.trans s2).trans s3) h3
    | _ => exact w1.elim
def f_find (x : Str) : List D → Option D
  | [.str y] => some (.int (Txt.find x y))
  | _ => none
theorem m_find : OpSm K T (fun x xs H Q => ∃ a b, x = .str a ∧ xs = [.str b] ∧ Q (.int (Txt.find a b)) H) f_find := fun x xs ds z H H0 s h e Q q => by
  unfold f_find at e; split at e
  · cases e; obtain ⟨v, rfl, hv⟩ := h.one; exact ⟨x, _, rfl, by rw [hv.str'], q _ _ _ (.sc (.int _))⟩
  · cases e
def f_partition (x : Str) : List D → Option D
  | [.str y] => if (y.length == 0) = false ∧ x.length ≤ SZ then some (.tup [.str (Txt.partition x y).1, .str (Txt.partition x y).2.1, .str (Txt.partition x y).2.2]) else none
  | _ => none
theorem m_partition : OpSm K T (fun x xs H Q => ∃ a b, x = .str a ∧ xs = [.str b] ∧ (b.length == 0) = false ∧ a.length ≤ sizeLine ∧
    ∀ p, H p = none → Q (.ref p) (upd H p (.tup [.str (Txt.partition a b).1, .str (Txt.partition a b).2.1, .str (Txt.partition a b).2.2]))) f_partition := fun x xs ds z H H0 s h e Q q => by
  unfold f_partition at e; split at e
  · split at e
    · rename_i hz; cases e; obtain ⟨v, rfl, hv⟩ := h.one
      exact ⟨x, _, rfl, by rw [hv.str'], hz.1, by rw [← SZ_eq]; exact hz.2, fun p hp => q _ _ _ (.tup s hp (.cons (.str _) (.cons (.str _) (.cons (.str _) .nil))))⟩
    · cases e
  · cases e
theorem reps_strs : ∀ ys : List Str, Reps K T H (ys.map V.str) (ys.map D.str)
  | [] => .nil
  | y :: ys => .cons (.str y) (reps_strs ys)
def f_split (x : Str) : List D → Option D
  | [.str y] => if (y.length == 0) = false ∧ x.length + 2 ≤ SZ then some (.lst ((Txt.split x y).map .str)) else none
  | _ => none
theorem m_split : OpSm K T (fun x xs H Q => ∃ a b, x = .str a ∧ xs = [.str b] ∧ (b.length == 0) = false ∧ a.length + 2 ≤ sizeLine ∧ rNewStrs (Txt.split a b) H Q) f_split := fun x xs ds z H H0 s h e Q q => by
  unfold f_split at e; split at e
  · split at e
    · rename_i hz; cases e; obtain ⟨v, rfl, hv⟩ := h.one
      exact ⟨x, _, rfl, by rw [hv.str'], hz.1, by rw [← SZ_eq]; exact hz.2, fun p hp => q _ _ _ (.lst s hp (reps_strs _))⟩
    · cases e
  · cases e
def f_join (x : Str) : List D → Option D
  | [d] => match seqOf d with
    | some (_, ds) => (match strsOf ds with
      | some ys => if (ys.map (·.length)).sum + ys.length * x.length ≤ 16777216 then some (.str (Txt.join x ys)) else none
      | none => none)
    | none => none
  | _ => none
theorem m_join : OpSm K T (fun x xs H Q => ∃ a p, ∃ ys : List Str, x = .str a ∧ xs = [.ref p] ∧ (SqL K H p (ys.map V.str) ∨ SqT K H p (ys.map V.str)) ∧
    (ys.map (·.length)).sum + ys.length * a.length ≤ 16777216 ∧ Q (.str (Txt.join a ys)) H) f_join := fun x xs ds z H H0 s h e Q q => by
  unfold f_join at e; split at e
  · rename_i d
    cases hs : seqOf d with
    | none => rw [hs] at e; cases e
    | some p =>
      obtain ⟨b, es⟩ := p
      rw [hs] at e
      cases hy : strsOf es with
      | none => simp only [hy] at e; cases e
      | some ys =>
        simp only [hy] at e
        split at e
        · rename_i hz
          cases e
          obtain ⟨v, rfl, hv⟩ := h.one
          obtain ⟨a, vs, rfl, a1, a2⟩ := hv.seq s hs
          rw [strsOf_eq hy] at a2
          have ev := a2.strs
          subst ev
          refine ⟨x, a, ys, rfl, rfl, ?_, hz, q _ _ _ (.sc (.str _))⟩
          cases b with
          | true => rw [if_pos rfl] at a1; exact .inr a1
          | false => rw [if_neg Bool.false_ne_true] at a1; exact .inl a1
        · cases e
  · cases e
/-! ### f-strings -/
def fmt : D → Option Str
  | .str y => if y.length ≤ SZ then some y else none
  | .int i => if i.natAbs.log2 < 1920 then some (Str.ofString (toString i)) else none
  | _ => none
def e_fmt (m : EM D) : EM D := fun r => (m r).bind fun d r => match fmt d with
  | some y => .ok (.str y) r
  | none => .bad
theorem me_fmt {e : Expr} (p : PE X e (rdE K T F W m)) : PE X (.FormattedValue e (-1) none pos) (rdE K T F W (e_fmt m)) := pe_weak (pe_fmt p) fun σ H Q ⟨r, H0, R, w⟩ => by
  refine ⟨r, H0, R, WG.bind w fun d r1 _ w1 v H' H0' R' s hv => ?_⟩
  cases hd : fmt d with
  | none => rw [hd] at w1; exact w1.elim
  | some y =>
    rw [hd] at w1
    cases hv with
    | str x =>
      have hd : (if x.length ≤ SZ then some x else none) = some y := hd
      split at hd
      · rename_i hx; cases hd; exact .inl ⟨_, rfl, by rw [← SZ_eq]; exact hx, w1 _ H' H0' R' s (.str _)⟩
      · cases hd
    | int i =>
      have hd : (if i.natAbs.log2 < 1920 then some (Str.ofString (toString i)) else none) = some y := hd
      split at hd
      · rename_i hx; cases hd; exact .inr ⟨_, rfl, hx, w1 _ H' H0' R' s (.str _)⟩
      · cases hd
    | _ => cases hd
/-- the parts, one behind the other -/
def jn : List (EM D) → Str → EM Str
  | [], acc, r => .ok acc r
  | m :: ms, acc, r => (m r).bind fun d r => match d with
    | .str y => if (acc ++ y).length ≤ SZ then jn ms (acc ++ y) r else .bad
    | _ => .bad
def e_jn (ms : List (EM D)) : EM D := fun r => (jn ms Str.empty r).bind fun s r => .ok (.str s) r
inductive PJm (X : Cx) (K : PySem.W.Frag) (T : Tab) (F : Fc) (W : WX) : List Expr → List (EM D) → Prop where
  | nil : PJm X K T F W [] []
  | cons {e : Expr} {m : EM D} {es : List Expr} {ms : List (EM D)} (h : PE X e (rdE K T F W m)) (r : PJm X K T F W es ms) : PJm X K T F W (e :: es) (m :: ms)
theorem PJm.pj {es : List Expr} {ms : List (EM D)} (h : PJm X K T F W es ms) : PJ X es (ms.map (rdE K T F W)) := by
  induction h with
  | nil => exact .nil
  | cons h _ ih => exact .cons h ih
theorem rd_jn {σ : L2.St} : ∀ (ms : List (EM D)) (acc : Str) (H H0 : Hp) (r : Rho) (Q : Str → Hp → Prop), Rel K T F σ H H0 r → WG K T F W (jn ms acc r) σ H0 (fun s r' => ∀ H' H0', Rel K T F σ H' H0' r' → Sub H0 H0' → Q s H') → tJs (ms.map (rdE K T F W)) acc σ H Q
  | [], acc, H, H0, r, Q, R, w => w H H0 R (Sub.refl _)
  | m :: ms, acc, H, H0, r, Q, R, w => by
    refine ⟨r, H0, R, WG.bind (show WG K T F W ((m r).bind fun d r => match d with
      | .str y => if (acc ++ y).length ≤ SZ then jn ms (acc ++ y) r else .bad
      | _ => .bad) σ H0 _ from w) fun d r1 _ w1 v H' H0' R' s hv => ?_⟩
    cases hv with
    | str y =>
      dsimp only at w1
      by_cases hz : (acc ++ y).length ≤ SZ
      · rw [if_pos hz] at w1
        exact ⟨y, rfl, by rw [← SZ_eq]; exact hz, rd_jn ms _ H' H0' r1 Q R' (w1.imp s fun s' r2 _ k H2 H02 R2 s2 => k H2 H02 R2 (s.trans s2))⟩
      · rw [if_neg hz] at w1; exact w1.elim
    | _ => exact w1.elim
theorem me_jn {v1 v2 : Expr} {rest : List Expr} {ms : List (EM D)} (h : PJm X K T F W (v1 :: v2 :: rest) ms) : PE X (.JoinedStr (v1 :: v2 :: rest) pos) (rdE K T F W (e_jn ms)) := pe_weak (pe_joined h.pj) fun σ H Q ⟨r, H0, R, w⟩ =>
  rd_jn ms _ H H0 r _ R ((WG.bind w fun s r1 _ w1 => w1).imp (Sub.refl _) fun s r1 _ k H' H0' R' s' => k _ H' H0' R' s' (.str _))
/-! ### more built-ins -/
def f_str : List D → Option D
  | [.int i] => if i.natAbs.log2 < 1920 then some (.str (Str.ofString (toString i))) else none
  | _ => none
theorem m_str : OpMs K T (fun xs H Q => ∃ i, xs = [.int i] ∧ i.natAbs.log2 < 1920 ∧ Q (.str (toString i)) H) f_str := fun xs ds z H H0 s h e Q q => by
  unfold f_str at e; split at e
  · split at e
    · rename_i hz; cases e; obtain ⟨v, rfl, hv⟩ := h.one; exact ⟨_, by rw [hv.int'], hz, q _ _ _ (.sc (.str _))⟩
    · cases e
  · cases e
/-- list(x), tuple(x) -/
def f_list : List D → Option (List D)
  | [d] => (seqOf d).map (·.2)
  | _ => none
theorem m_list : OpLs K T (fun xs H Q => ∃ p ys, xs = [.ref p] ∧ (SqL K H p ys ∨ SqT K H p ys) ∧ ∀ l, H l = none → Q (.ref l) (upd H l (.lst ys))) f_list := fun xs ds z H H0 s h e Q q => by
  unfold f_list at e; split at e
  · rename_i d
    cases hs : seqOf d with
    | none => rw [hs] at e; cases e
    | some p =>
      obtain ⟨b, es⟩ := p
      rw [hs] at e
      cases e
      obtain ⟨v, rfl, hv⟩ := h.one
      obtain ⟨a, vs, rfl, a1, a2⟩ := hv.seq s hs
      refine ⟨a, vs, rfl, ?_, fun l hl => q _ _ ⟨l, vs, hl, rfl, rfl, a2⟩⟩
      cases b with
      | true => rw [if_pos rfl] at a1; exact .inr a1
      | false => rw [if_neg Bool.false_ne_true] at a1; exact .inl a1
  · cases e
def f_tuple : List D → Option D
  | [.tup ds] => some (.tup ds)
  | [.ro true ds] => some (.ro true ds)
  | [.lst ds] => some (.tup ds)
  | [.ro false ds] => some (.tup ds)
  | _ => none
theorem m_tuple : OpMs K T (fun xs H Q => ∃ p ys, xs = [.ref p] ∧ ((SqL K H p ys ∧ ∀ l, H l = none → Q (.ref l) (upd H l (.tup ys))) ∨ (SqT K H p ys ∧ Q (.ref p) H))) f_tuple := fun xs ds z H H0 s h e Q q => by
  unfold f_tuple at e; split at e
  · cases e
    obtain ⟨v, rfl, hv⟩ := h.one
    obtain ⟨a, vs, rfl, a1, a2⟩ := hv.tup'
    exact ⟨a, vs, rfl, .inr ⟨SqT.of (s _ _ a1), q _ _ _ (.sc (.tup a1 a2))⟩⟩
  · cases e
    obtain ⟨v, rfl, hv⟩ := h.one
    rcases hv with hv | ⟨_, _, _, _, e, _⟩ | ⟨_, _, _, _, _, _, e, _⟩
    · cases hv with | roT a1 a2 => exact ⟨_, _, rfl, .inr ⟨s.sqT a1, q _ _ _ (.sc (.roT a1 a2))⟩⟩
    · cases e
    · cases e
  · cases e
    obtain ⟨v, rfl, hv⟩ := h.one
    obtain ⟨a, vs, rfl, a1, a2⟩ := hv.lst' s
    exact ⟨a, vs, rfl, .inl ⟨SqL.of a1, fun l hl => q _ _ _ (.tup s hl a2)⟩⟩
  · cases e
    obtain ⟨v, rfl, hv⟩ := h.one
    obtain ⟨a, vs, rfl, a1, a2⟩ := hv.seq s rfl
    rw [if_neg Bool.false_ne_true] at a1
    exact ⟨a, vs, rfl, .inl ⟨a1, fun l hl => q _ _ _ (.tup s hl a2)⟩⟩
  · cases e
/-- sum, min, max of a list of ints; max, min of two -/
def lsInts (d : D) : Option (List Int) := match d with
  | .lst ds => intsOf ds
  | .ro false ds => intsOf ds
  | _ => none
theorem lsInts_ok {v : V} {d : D} {ns : List Int} (s : Sub H0 H) (h : RepE K T H H0 v d) (e : lsInts d = some ns) : ∃ a, v = .ref a ∧ SqL K H a (ns.map V.int) := by
  unfold lsInts at e; split at e
  · obtain ⟨a, vs, rfl, a1, a2⟩ := h.lst' s
    rw [intsOf_eq e] at a2
    rw [a2.ints] at a1
    exact ⟨a, rfl, SqL.of a1⟩
  · obtain ⟨a, vs, rfl, a1, a2⟩ := h.seq s rfl
    rw [if_neg Bool.false_ne_true] at a1
    rw [intsOf_eq e] at a2
    rw [a2.ints] at a1
    exact ⟨a, rfl, a1⟩
  · cases e
def minL : List Int → Int
  | [] => 0
  | [a] => a
  | a :: b :: l => let m := minL (b :: l); if m < a then m else a
def maxL : List Int → Int
  | [] => 0
  | [a] => a
  | a :: b :: l => let m := maxL (b :: l); if a < m then m else a
theorem minL_mem : ∀ l : List Int, l ≠ [] → minL l ∈ l ∧ ∀ y ∈ l, minL l ≤ y
  | [], h => absurd rfl h
  | [a], _ => ⟨by simp [minL], by simp [minL]⟩
  | a :: b :: l, _ => by
    obtain ⟨h1, h2⟩ := minL_mem (b :: l) (by simp)
    unfold minL
    dsimp only
    split
    · exact ⟨List.mem_cons_of_mem _ h1, fun y hy => by
        rcases List.mem_cons.mp hy with rfl | hy
        · omega
        · exact h2 y hy⟩
    · refine ⟨List.mem_cons_self, fun y hy => ?_⟩
      rcases List.mem_cons.mp hy with rfl | hy
      · exact Int.le_refl _
      · have := h2 y hy; omega
theorem maxL_mem : ∀ l : List Int, l ≠ [] → maxL l ∈ l ∧ ∀ y ∈ l, y ≤ maxL l
  | [], h => absurd rfl h
  | [a], _ => ⟨by simp [maxL], by simp [maxL]⟩
  | a :: b :: l, _ => by
    obtain ⟨h1, h2⟩ := maxL_mem (b :: l) (by simp)
    unfold maxL
    dsimp only
    split
    · exact ⟨List.mem_cons_of_mem _ h1, fun y hy => by
        rcases List.mem_cons.mp hy with rfl | hy
        · omega
        · exact h2 y hy⟩
    · refine ⟨List.mem_cons_self, fun y hy => ?_⟩
      rcases List.mem_cons.mp hy with rfl | hy
      · exact Int.le_refl _
      · have := h2 y hy; omega
def f_sum : List D → Option D
  | [d] => (lsInts d).map fun ns => .int ns.sum
  | _ => none
theorem m_sum : OpMs K T (rSum K) f_sum := fun xs ds z H H0 s h e Q q => by
  unfold f_sum at e; split at e
  · rename_i d
    cases hn : lsInts d with
    | none => rw [hn] at e; cases e
    | some ns =>
      rw [hn] at e; cases e
      obtain ⟨v, rfl, hv⟩ := h.one
      obtain ⟨a, rfl, a1⟩ := lsInts_ok s hv hn
      exact ⟨a, ns, rfl, a1, q _ _ _ (.sc (.int _))⟩
  · cases e
def f_min : List D → Option D
  | [d] => match lsInts d with
    | some ns => if 0 < ns.length then some (.int (minL ns)) else none
    | none => none
  | [.int i, .int j] => some (.int (if j < i then j else i))
  | _ => none
def rMinA (K : PySem.W.Frag) : List V → Hp → VK → Prop := fun xs H Q => (∃ i j, xs = [.int i, .int j] ∧ Q (.int (if j < i then j else i)) H) ∨ rMin K xs H Q
theorem call_minA (hc : X.calm = true) : CallR X (.builtin "min") (rMinA X.K) := CallR.or (call_min2 hc) (cr_min hc)
theorem m_min : OpMs K T (rMinA K) f_min := fun xs ds z H H0 s h e Q q => by
  unfold f_min at e; split at e
  · rename_i d
    cases hn : lsInts d with
    | none => rw [hn] at e; cases e
    | some ns =>
      simp only [hn] at e
      split at e
      · rename_i hz
        cases e
        obtain ⟨v, rfl, hv⟩ := h.one
        obtain ⟨a, rfl, a1⟩ := lsInts_ok s hv hn
        refine .inr ⟨a, ns, rfl, a1, hz, fun m m1 m2 => ?_⟩
        obtain ⟨k1, k2⟩ := minL_mem ns (by intro z; rw [z] at hz; exact absurd hz (by simp))
        have : m = minL ns := by have := m2 _ k1; have := k2 _ m1; omega
        rw [this]
        exact q _ _ _ (.sc (.int _))
      · cases e
  · cases e
    obtain ⟨v, u, rfl, hv, hu⟩ := h.two
    exact .inl ⟨_, _, by rw [hv.int', hu.int'], q _ _ _ (.sc (.int _))⟩
  · cases e
def f_max : List D → Option D
  | [d] => match lsInts d with
    | some ns => if 0 < ns.length then some (.int (maxL ns)) else none
    | none => none
  | [.int i, .int j] => some (.int (if j > i then j else i))
  | _ => none
def rMaxA (K : PySem.W.Frag) : List V → Hp → VK → Prop := fun xs H Q => (∃ i j, xs = [.int i, .int j] ∧ Q (.int (if j > i then j else i)) H) ∨ rMax K xs H Q
theorem call_maxA (hc : X.calm = true) : CallR X (.builtin "max") (rMaxA X.K) := CallR.or (call_max2 hc) (cr_max hc)
theorem m_max : OpMs K T (rMaxA K) f_max := fun xs ds z H H0 s h e Q q => by
  unfold f_max at e; split at e
  · rename_i d
    cases hn : lsInts d with
    | none => rw [hn] at e; cases e
    | some ns =>
      simp only [hn] at e
      split at e
      · rename_i hz
        cases e
        obtain ⟨v, rfl, hv⟩ := h.one
        obtain ⟨a, rfl, a1⟩ := lsInts_ok s hv hn
        refine .inr ⟨a, ns, rfl, a1, hz, fun m m1 m2 => ?_⟩
        obtain ⟨k1, k2⟩ := maxL_mem ns (by intro z; rw [z] at hz; exact absurd hz (by simp))
        have : m = maxL ns := by have := m2 _ k1; have := k2 _ m1; omega
        rw [this]
        exact q _ _ _ (.sc (.int _))
      · cases e
  · cases e
    obtain ⟨v, u, rfl, hv, hu⟩ := h.two
    exact .inl ⟨_, _, by rw [hv.int', hu.int'], q _ _ _ (.sc (.int _))⟩
  · cases e
end
end Ml
set_option Elab.async false
set_option linter.all false
set_option maxRecDepth 100000
set_option maxHeartbeats 4000000
/-! Mx1: own errors over own errors over ValueError, whose __init__ says super().__init__(text) and then stores its arguments. -/
namespace Mx
open PySem PySem.W PySem.Calls PyProof.Rows PySem.HandSPX
/-- what the written part says of the class at C, its __init__ at fI (closing over __class__ at cc, its code at cda) -/
structure EcTxt (prog : Program) (K : Frag) (C fI cc cda : Addr) (qual : Str) (params : Arguments) (body : List Stmt) (scope : Scope) : Prop where
  cls : ∃ nm q N bs bm sn sub ab col dd k0 k1 k2 k3 k5, K.lookup C = some (excClassObj nm q C N bs bm true sn sub ab col dd k0 k1 k2 k3 k5 "ValueError.__new__") ∧ refsVE bm = true
  sa : findIn K (.ref C) "__setattr__" = some (some (.builtin "object.__setattr__"))
  iC : findIn K (.ref C) "__init__" = some (some (.ref fI))
  tC : typeIn K (.ref fI) = some (.type "function")
  kC : keepIn K (.ref C) = true
  exC : subIn K (.ref C) (.type "BaseException") = some true
  vB : subIn K (.ref C) (.type "ValueError") = some true
  tyC : typeIn K (.ref C) = some (.type "type")
  mro : mroIn K C (.ref C) = some true
  sup : ks_superIn K C C "__init__" = some (some (.builtin "ValueError.__init__"))
  opq : nsIn K cStatics "thirdparty.any" = some none
  cell : ∃ cl cld csl, K.lookup cc = some ⟨cl, cld, .cell (some (.ref C)), csl⟩
  code : ∃ ccl cdd ccs vs file tf, K.lookup cda = some ⟨ccl, cdd, .fields vs, ccs⟩ ∧ vs[2]? = some (.str file tf) ∧ ((prog.main.file : Str) == file) = true
  fn : ∃ (oc : Value) (od : Option Addr) (dV kV doc pm : Value) (an : Option Addr) (ct : Value) (osl : Array (Option Value)),
    K.lookup fI = some ⟨oc, od, .func (ksFn "__init__" qual params body scope dV kV doc pm an (.ref cda) ct cc), osl⟩ ∧ codeIn K (.ref cda) qual = true ∧ dV = .none ∧ kV = .none
section
variable {prog : Program} {w : World} {A : Around} {E : Value → Shared → Prop} {K : Frag} {C fI cc cda L x : Addr} {qual : Str} {params : Arguments} {body : List Stmt} {scope : Scope} {m : Str → Option Value}
variable {hp : Heap} {g : Array GenState} {d : Drawn} {t : Nat} {os : OsState}
theorem lookupX {h : Heap} {a : Addr} {o : Obj} (X : K.In h) (e : K.lookup a = some o) : h.get? a = some o := X a o e
/-- super().__init__(e0) -/
theorem super_call (T : EcTxt prog K C fI cc cda qual params body scope) {mg mb : Str → Option Value} {e0 : Expr} {p0 p1 p2 p3 : Pos} {ar : Arg} {t0 : Addr} {Q : Value → Shared → Prop} {body' : List Stmt}
    (X : K.In hp) (hG : hp.Ns mainGlobals mg) (hsup : mg "super" = none) (hB : hp.Ns builtinsNs mb) (hmb : mb "super" = some (.type "super")) (hn : hp.Ns L m) (hx : hp.get? x = some (excO C t0))
    (hp0 : (params.posonlyargs ++ params.args).head? = some ar) (hself : m ar.arg = some (.ref x)) (hks : scope.names.lookup ("super" : Str) = some .globalImplicit) (hkc : scope.names.lookup ("__class__" : Str) = some .free) (hka : scope.names.lookup ar.arg = some .local) (hk : scope.kind = .function)
    (htop : (prog.main.scope.names.lookup ("super" : Str)).isSome = false)
    (he0 : ∀ h1 t1 (Q1 : Value → Shared → Prop), (∀ b o, hp.get? b = some o → h1.get? b = some o) → (∀ v t2, Q1 v ⟨h1, g, d, t2, os⟩) → wpAny (model prog w) A (eval e0 (ksEnv qual scope L fI (.ref cda) cc)) Q1 E ⟨h1, g, d, t1, os⟩)
    (hq : ∀ h' tk t1, (∀ b o, b ≠ x → hp.get? b = some o → h'.get? b = some o) → h'.get? x = some (excO C t1) → Q .none ⟨h', g, d, tk, os⟩)
    (hee : starEach (e0 :: []) (ksEnv qual scope L fI (.ref cda) cc) = (false, eval e0 (ksEnv qual scope L fI (.ref cda) cc)) :: starEach [] (ksEnv qual scope L fI (.ref cda) cc)) (hpl : (backTo p3 (starEach [] (ksEnv qual scope L fI (.ref cda) cc))).any (·.1) = false)
    {pl : Sem Bool} (hcall : eval (.Call (.Attribute (.Call (.Name "super" p0) [] [] p1) "__init__" p2) [e0] [] p3) (ksEnv qual scope L fI (.ref cda) cc) = (do
      let ov ← attributeBase (.Call (.Name "super" p0) [] [] p1) "__init__" (ksEnv qual scope L fI (.ref cda) cc) (eval (.Call (.Name "super" p0) [] [] p1) (ksEnv qual scope L fI (.ref cda) cc))
      standAt p2.atName
      let (f, first) ← holding [ov] (getMethod ov "__init__" pl)
      callWith p3 f first (backTo p3 (starEach [e0] (ksEnv qual scope L fI (.ref cda) cc))) (backToKw p3 (keywordEach [] (ksEnv qual scope L fI (.ref cda) cc))))) :
    PySem.wpAt (model prog w) A (.func body' (ksEnv qual scope L fI (.ref cda) cc)) (eval (.Call (.Attribute (.Call (.Name "super" p0) [] [] p1) "__init__" p2) [e0] [] p3) (ksEnv qual scope L fI (.ref cda) cc)) Q E ⟨hp, g, d, t, os⟩ := by
  obtain ⟨nm, q, N, bs, bm, sn, sub, ab, col, dd, k0, k1, k2, k3, k5, hC, hbm⟩ := T.cls
  obtain ⟨cl, cld, csl, hcell⟩ := T.cell
  obtain ⟨ccl, cdd, ccs, vs, file, tf, hcode, hvs, hfile⟩ := T.code
  obtain ⟨oc, od, dV, kV, doc, pm, an, ct, osl, hfI, hcd, hdV, hkV⟩ := T.fn
  have hcl : clsIn K C = some { name := nm, bases := bs, mro := .ref C :: bm, ns := N, qualname := q, hasDict := true, slotNames := sn, subclasses := sub, abstract := ab, collection := col, hasDel := false } := by unfold clsIn; rw [hC] <;> rfl
  have hCg := X _ _ hC
  have I : InstAt hp x (excO C t0) C none := ⟨hx, rfl, rfl, trivial⟩
  refine ks_wpAt_MethodCall (pl := pl) ?_ hcall
  refine ks_wpAt_super_base (env := ksEnv qual scope L fI (.ref cda) cc) hks hkc (by decide +kernel) rfl (X _ _ hfI) rfl hp0 rfl (X _ _ hcode) rfl hvs hfile htop ?_
  refine ks_loadName_global hk hks (loadGlobal_builtin (env := ksEnv qual scope L fI (.ref cda) cc) hG hsup hB hmb ⟨rfl, ?_⟩)
  refine wpAny_loadName_free hk hkc rfl ⟨_, X _ _ hcell, rfl⟩ ?_
  refine wpAny_loadName_local hk hka hn hself ?_
  refine ks_wpAny_isType_cls hCg rfl ⟨rfl, ?_⟩
  refine ks_wpAny_call_super hCg rfl hx rfl (fun c e => by cases e) (looks_mroIn X T.mro) (fun h1 e1 kk1 => ?_)
  have X1 : K.In h1 := X.keeps kk1
  have sup := T.sup
  unfold ks_superIn at sup
  rw [hcl] at sup
  have hI1 : InstAt h1 x (excO C t0) C none := ⟨kk1 _ _ hx, rfl, rfl, trivial⟩
  refine kxs_getMethod kxs_ValueError (h := h1) e1 (looks_opaque X1 T.opq) (l₀ := .ref C :: bm) (fun A Q E s k q => wpAny_bind ((looks_clsIn X1 hcl) A _ E s k (wpAny_pure q))) rfl X1 sup (hI1.type.andThen (looks_subIn X1 T.vB)) (ks_ne X1 hI1 hcl) (by decide +kernel) ?_
  have kk2 : ∀ b o, hp.get? b = some o → (h1.push (kxs_mw "ValueError.__init__" x)).get? b = some o := fun b o e => Heap.get?_push_of_some _ (kk1 b o e)
  show wpAny (model prog w) A (callWith p3 (.ref h1.objs.size) [] (backTo p3 (starEach (e0 :: []) (ksEnv qual scope L fI (.ref cda) cc))) []) Q E _
  rw [hee]
  refine kxs_callWith (i := "ValueError.__init__") (x := x) (by show (false || (backTo p3 (starEach [] (ksEnv qual scope L fI (.ref cda) cc))).any (·.1)) = false; rw [hpl]; rfl) ?_
  refine evalArgs_plain ?_
  refine spliced_cons (he0 (h1.push (kxs_mw "ValueError.__init__" x)) _ _ kk2 fun v t2 => ?_)
  refine spliced_nil ?_
  have hu : (h1.push (kxs_mw "ValueError.__init__" x)).get? h1.objs.size = some (kxs_mw "ValueError.__init__" x) := Heap.get?_push_at rfl rfl
  refine ⟨hu, ?_⟩
  show wpAny _ _ (call (.ref h1.objs.size) [v]) _ _ _
  refine wpAny_call (codeAny_of_tree ?_)
  show wpAny _ A.in1 (callAny (.ref h1.objs.size) ⟨[v], []⟩) _ _ _
  simp only [callAny]
  refine wpAny_bind (wpAny_load hu ?_)
  simp only [kxs_mw, show (Value.type "method-wrapper" == Value.type "method" || Value.type "method-wrapper" == Value.type "builtin_function_or_method" || Value.type "method-wrapper" == Value.type "method-wrapper") = true by decide, if_true]
  refine KFB.if_so (by decide) ?_
  refine wpAny_bind (check_bound_init F.excBase_ValueError.toExcCallFacts (kk2 _ _ hCg) (kk2 _ _ hx) rfl ?_)
  refine wpAny_bind (wpAny_pure (wpAny_pure ?_))
  refine ⟨plainId_quiet F.excBase_ValueError.init.plain _, codeAny_builtin F.excBase_ValueError.initEntry ?_⟩
  refine exc_init_tree (cls := .ref C) (t0 := t0) (dv := none) (c2 := .none) (c3 := .none) (b4 := .bool false) (kk2 _ _ hx) (by show 1 ≤ sizeLine; rw [sizeLine_eq]; decide) fun h' k e' _ => ?_
  exact hq h' _ _ (fun b o hb e => k b o hb (kk2 b o e)) e'

/-- what __init__ leaves of a fresh exception at x -/
structure InitEnd (h h' : Heap) (x C dx t1 : Addr) (mA : Str → Option Value) : Prop where
  keep : ∀ b o, b ≠ x → h.get? b = some o → h'.get? b = some o
  obj : h'.get? x = some { cls := .ref C, dict := some dx, data := .fields #[.ref t1, .none, .none, .none, .bool false, .none] }
  dbig : h.objs.size ≤ dx
  dne : dx ≠ x
  ns : h'.Ns1 dx mA
theorem ldX {M : Model} {s : Shared} {env : Env} {L : Addr} {m : Str → Option Value} {y : Str} {pos : Pos} {v : Value} {Q : Value → Shared → Prop} {A : Around} {E : Value → Shared → Prop} (hn : s.heap.Ns L m) (hv : m y = some v) (h : Q v s)
    (hL : env.locals = L) (hk : env.scope.kind = .function) (hl : env.kindOf y = some .local) (hd : (y == ("__debug__" : Str)) = false) : wpAny M A (eval (.Name y pos) env) Q E s := wpAny_Name (wpAny_loadName_local hk hl (by rw [hL]; exact hn) hv h) hd
/-- self.f = y: the first field -/
theorem store_first (T : EcTxt prog K C fI cc cda qual params body scope) {env : Env} {f y sf : Str} {q1 q2 q3 q4 : Pos} {v : Value} {t1 : Addr} {Q : Flow → Shared → Prop} (X : K.In hp) (hn : hp.Ns L m) (hx : hp.get? x = some (excO C t1)) (hs : m sf = some (.ref x)) (hv : m y = some v) (no : findIn K (.ref C) f = some none)
    (hL : env.locals = L) (hk : env.scope.kind = .function) (hl1 : env.kindOf sf = some .local) (hl2 : env.kindOf y = some .local) (hd1 : (sf == ("__debug__" : Str)) = false) (hd2 : (y == ("__debug__" : Str)) = false)
    (hsw : swapsWith (.Name y q3) (some (.Attribute (.Name sf q1) f q2)) q4.line env = pure false)
    (hq : ∀ h' tk dx, InitEnd hp h' x C dx t1 (fun z => if z = f then some v else none) → Q .next ⟨h', g, d, tk, os⟩) :
    wpAny (model prog w) A (exec (.Assign [.Attribute (.Name sf q1) f q2] (.Name y q3) q4) env) Q E ⟨hp, g, d, t, os⟩ := by
  obtain ⟨nm, q, N, bs, bm, sn, sub, ab, col, dd, k0, k1, k2, k3, k5, hC, hbm⟩ := T.cls
  have hcl : clsIn K C = some { name := nm, bases := bs, mro := .ref C :: bm, ns := N, qualname := q, hasDict := true, slotNames := sn, subclasses := sub, abstract := ab, collection := col, hasDel := false } := by unfold clsIn; rw [hC] <;> rfl
  refine plainObj_wpAny_Assign_Attribute ?_ hsw
  refine ldX hn hv (ldX hn hs ?_ hL hk hl1 hd1) hL hk hl2 hd2
  refine set_plain X (ox := excO C t1) (od := none) ⟨hx, rfl, rfl, trivial⟩ T.sa ?_
  refine exc_osa X hx hcl (show refsVE (.ref C :: bm) = true from hbm) rfl no (fun h₃ tk₃ dx k₃ dn dne hx₃ hn₃ => ?_)
  exact hq h₃ tk₃ dx ⟨k₃, hx₃, dn, dne, hn₃⟩
/-- self.f = y: a further field -/
theorem store_more (T : EcTxt prog K C fI cc cda qual params body scope) {env : Env} {f y sf : Str} {q1 q2 q3 q4 : Pos} {v : Value} {t1 dx : Addr} {m0 : Str → Option Value} {nl : List Str} {Q : Flow → Shared → Prop} {h0 : Heap} (X : K.In hp) (hn : hp.Ns L m) (J : InitEnd h0 hp x C dx t1 m0) (hw : Within m0 nl) (hz : nl.length ≤ 1000)
    (hs : m sf = some (.ref x)) (hv : m y = some v) (no : findIn K (.ref C) f = some none)
    (hL : env.locals = L) (hk : env.scope.kind = .function) (hl1 : env.kindOf sf = some .local) (hl2 : env.kindOf y = some .local) (hd1 : (sf == ("__debug__" : Str)) = false) (hd2 : (y == ("__debug__" : Str)) = false)
    (hsw : swapsWith (.Name y q3) (some (.Attribute (.Name sf q1) f q2)) q4.line env = pure false)
    (hq : ∀ h' tk, InitEnd h0 h' x C dx t1 (fun z => if z = f then some v else m0 z) → Q .next ⟨h', g, d, tk, os⟩) :
    wpAny (model prog w) A (exec (.Assign [.Attribute (.Name sf q1) f q2] (.Name y q3) q4) env) Q E ⟨hp, g, d, t, os⟩ := by
  obtain ⟨nm, q, N, bs, bm, sn, sub, ab, col, dd, k0, k1, k2, k3, k5, hC, hbm⟩ := T.cls
  have hcl : clsIn K C = some { name := nm, bases := bs, mro := .ref C :: bm, ns := N, qualname := q, hasDict := true, slotNames := sn, subclasses := sub, abstract := ab, collection := col, hasDel := false } := by unfold clsIn; rw [hC] <;> rfl
  obtain ⟨oD, _, _, hoD, _, _⟩ := J.ns.count hw
  refine plainObj_wpAny_Assign_Attribute ?_ hsw
  refine ldX hn hv (ldX hn hs ?_ hL hk hl1 hd1) hL hk hl2 hd2
  refine set_plain X (ox := { cls := .ref C, dict := some dx, data := .fields #[.ref t1, .none, .none, .none, .bool false, .none] }) (od := some oD) ⟨J.obj, rfl, rfl, hoD⟩ T.sa ?_
  refine PySem.OEX.osa_old X J.obj J.ns hw hz hcl (show refsVE (.ref C :: bm) = true from hbm) rfl no (fun h' tk' k hn' => ?_)
  refine hq h' tk' ⟨fun b o hb e => k b o (fun z => ?_) (J.keep b o hb e), k _ _ (Ne.symm J.dne) J.obj, J.dbig, J.dne, hn'⟩
  have := J.dbig
  rw [← z] at this
  exact absurd (Nat.lt_of_lt_of_le (Heap.lt_size e) this) (Nat.lt_irrefl _)
/-- the whole of __init__: super().__init__(e0), then the rest -/
theorem ex_init (T : EcTxt prog K C fI cc cda qual params body scope) {mg mb : Str → Option Value} {e0 : Expr} {p0 p1 p2 p3 p4 : Pos} {ar : Arg} {t0 : Addr} {R : Result → Shared → Prop} {rest : List Stmt} {us : List Value} {binds : List (Str × Value)}
    (hbody : body = .Expr (.Call (.Attribute (.Call (.Name "super" p0) [] [] p1) "__init__" p2) [e0] [] p3) p4 :: rest)
    (X : K.In hp) (hlim : hp.NoLimit) (hG : hp.Ns mainGlobals mg) (hsup : mg "super" = none) (hB : hp.Ns builtinsNs mb) (hmb : mb "super" = some (.type "super")) (hx : hp.get? x = some (excO C t0)) (hnx : K.lookup x = none)
    (hp0 : (params.posonlyargs ++ params.args).head? = some ar) (hself : binds.reverse.lookup ar.arg = some (.ref x)) (hks : scope.names.lookup ("super" : Str) = some .globalImplicit) (hkc : scope.names.lookup ("__class__" : Str) = some .free) (hka : scope.names.lookup ar.arg = some .local) (hk : scope.kind = .function)
    (hco : scope.isCoroutine = false) (hgen : scope.isGenerator = false) (hcell : ∀ y ∈ scope.names, y.2 ≠ .cell) (hloc : ∀ y ∈ binds, scope.names.lookup y.1 = some .local)
    (htop : (prog.main.scope.names.lookup ("super" : Str)).isSome = false) (hroom : A.depth < recursionLimit)
    (hbind : ∀ (doc pm : Value) (an : Option Addr) (ct : Value) (s : Shared), BindsTo s (ksFn "__init__" qual params body scope .none .none doc pm an (.ref cda) ct cc) ⟨.ref x :: us, []⟩ binds)
    (he0 : ∀ (E : Value → Shared → Prop) h1 t1 (Q1 : Value → Shared → Prop), h1.Ns hp.objs.size (fun y => binds.reverse.lookup y) → (∀ v t2, Q1 v ⟨h1, g, d, t2, os⟩) → wpAny (model prog w) (A.deeper (ksEnv qual scope hp.objs.size fI (.ref cda) cc)) (eval e0 (ksEnv qual scope hp.objs.size fI (.ref cda) cc)) Q1 E ⟨h1, g, d, t1, os⟩)
    (hee : starEach (e0 :: []) (ksEnv qual scope hp.objs.size fI (.ref cda) cc) = (false, eval e0 (ksEnv qual scope hp.objs.size fI (.ref cda) cc)) :: starEach [] (ksEnv qual scope hp.objs.size fI (.ref cda) cc)) (hpl : (backTo p3 (starEach [] (ksEnv qual scope hp.objs.size fI (.ref cda) cc))).any (·.1) = false)
    (hsw : swapsWith (.Call (.Attribute (.Call (.Name "super" p0) [] [] p1) "__init__" p2) [e0] [] p3) none p4.line (ksEnv qual scope hp.objs.size fI (.ref cda) cc) = pure false)
    {pl : Sem Bool} (hcall : eval (.Call (.Attribute (.Call (.Name "super" p0) [] [] p1) "__init__" p2) [e0] [] p3) (ksEnv qual scope hp.objs.size fI (.ref cda) cc) = (do
      let ov ← attributeBase (.Call (.Name "super" p0) [] [] p1) "__init__" (ksEnv qual scope hp.objs.size fI (.ref cda) cc) (eval (.Call (.Name "super" p0) [] [] p1) (ksEnv qual scope hp.objs.size fI (.ref cda) cc))
      standAt p2.atName
      let (f, first) ← holding [ov] (getMethod ov "__init__" pl)
      callWith p3 f first (backTo p3 (starEach [e0] (ksEnv qual scope hp.objs.size fI (.ref cda) cc))) (backToKw p3 (keywordEach [] (ksEnv qual scope hp.objs.size fI (.ref cda) cc)))))
    (hrest : ∀ (E : Value → Shared → Prop) h2 tk t1, (∀ b o, b ≠ x → hp.get? b = some o → h2.get? b = some o) → K.In h2 → h2.get? x = some (excO C t1) → h2.Ns hp.objs.size (fun y => binds.reverse.lookup y) →
      wpAny (model prog w) (A.deeper (ksEnv qual scope hp.objs.size fI (.ref cda) cc)) (execs rest (ksEnv qual scope hp.objs.size fI (.ref cda) cc)) (fun fl s' => R (.ok (.ret (match fl with | .ret v => v | _ => .none))) s') E ⟨h2, g, d, tk, os⟩) :
    codeAny (model prog w) A (.call (.ref fI) ⟨.ref x :: us, []⟩) R ⟨hp, g, d, t, os⟩ := by
  obtain ⟨oc, od, dV, kV, doc, pm, an, ct, osl, hfI, hcd, rfl, rfl⟩ := T.fn
  refine ks_codeAny_call_defAt (fd := ksFn "__init__" qual params body scope .none .none doc pm an (.ref cda) ct cc) (body := body) (binds := binds) hroom (X _ _ hfI) rfl hlim (codeRec_of X hcd) rfl (hbind doc pm an ct _) hcell hloc (fun h1 hns hk1 => ?_) hco hgen hk
  have X1 : K.In h1 := X.keeps hk1
  subst hbody
  refine ks_wpAt_execs_cons ?_
  refine ks_wpAt_Expr_any ?_ (by
    have hk' : (callEnv (ksFn "__init__" qual params (.Expr (.Call (.Attribute (.Call (.Name "super" p0) [] [] p1) "__init__" p2) [e0] [] p3) p4 :: rest) scope .none .none doc pm an (.ref cda) ct cc) hp.objs.size fI).scope.kind = .function := hk
    simp [interactive, hk']) hsw
  have hxL : hp.objs.size ≠ x := Nat.ne_of_gt (Heap.lt_size hx)
  refine super_call T X1 (hG.keeps hk1) hsup (hB.keeps hk1) hmb hns (hk1 _ _ hx) hp0 hself hks hkc hka hk htop (fun h2 t2 Q1 kk hQ => ?_) (fun h2 tk t1 kk e2 => ?_) hee hpl hcall
  · refine he0 _ h2 t2 Q1 ?_ hQ
    obtain ⟨o, es, ep, ho, r⟩ := hns
    exact ⟨o, es, ep, kk _ _ ho, r⟩
  · refine wpAt_of_wpAny (hrest _ h2 tk t1 (fun b o hb e => kk b o hb (hk1 b o e)) ?_ e2 ?_)
    · exact fun a o e => kk a o (fun z => by rw [z, hnx] at e; cases e) (X1 a o e)
    · obtain ⟨o, es, ep, ho, r⟩ := hns
      exact ⟨o, es, ep, kk _ _ hxL ho, r⟩
end
/-! ### the text: constants and formatted names -/
section
variable {prog : Program} {w : World} {A : Around} {E : Value → Shared → Prop} {env : Env} {L : Addr} {m : Str → Option Value}
inductive FParts (m : Str → Option Value) (env : Env) : List Expr → Nat → Prop
  | nil : FParts m env [] 0
  | con {x : Str} {j : Nat} {pos : Pos} {r : List Expr} {n : Nat} (h : x.length ≤ 1000) (q : FParts m env r n) : FParts m env (.Constant (.str x) j pos :: r) (n + 1000)
  | int {y : Str} {p p' : Pos} {r : List Expr} {n : Nat} {i : Int} {tk : Tok} (h : m y = some (.int i tk)) (hi : i.natAbs < 10 ^ 300) (hl : env.kindOf y = some .local) (hd : (y == ("__debug__" : Str)) = false) (q : FParts m env r n) : FParts m env (.FormattedValue (.Name y p) (-1) none p' :: r) (n + 1000)
  | str {y : Str} {p p' : Pos} {r : List Expr} {n : Nat} {x : Str} {tk : Tok} (h : m y = some (.str x tk)) (hi : x.length ≤ 1000000) (hl : env.kindOf y = some .local) (hd : (y == ("__debug__" : Str)) = false) (q : FParts m env r n) : FParts m env (.FormattedValue (.Name y p) (-1) none p' :: r) (n + 1000000)
theorem app_len (a b : Str) : (a ++ b).length = a.length + b.length := by
  show (a.cps ++ b.cps).size = _
  rw [Array.size_append]
  rfl
theorem log_lt {i : Int} (h : i.natAbs < 10 ^ 300) : i.natAbs.log2 < 1920 := by
  by_cases z : i.natAbs = 0
  · rw [z]; decide
  · exact (Nat.log2_lt z).mpr (Nat.lt_trans h (by decide +kernel))
theorem fparts_join {hp : Heap} {g : Array GenState} {d : Drawn} {os : OsState} (hn : hp.Ns L m) (hL : env.locals = L) (hk : env.scope.kind = .function) {Q1 : Value → Shared → Prop} (hq : ∀ v t2, Q1 v ⟨hp, g, d, t2, os⟩) : ∀ {r : List Expr} {n : Nat}, FParts m env r n → ∀ (acc : Str) (t : Nat), acc.length + n ≤ sizeLine →
    Joins (model prog w) A E (evalEach r env) acc (fun out s₁ => out.length ≤ sizeLine ∧ Q1 (.str out s₁.toks) { s₁ with toks := s₁.toks + 1 }) ⟨hp, g, d, t, os⟩
  | [], _, .nil, acc, t, h => by
    have e0 : evalEach [] env = [] := by first | rfl | simp [evalEach]
    rw [e0]
    exact ⟨by omega, hq _ _⟩
  | _ :: r, _, .con (x := x) hx q, acc, t, h => by
    have e0 : ∀ e : Expr, evalEach (e :: r) env = eval e env :: evalEach r env := fun e => by first | rfl | simp [evalEach]
    rw [e0]
    refine Calls.Constant_str ⟨x, _, rfl, by rw [app_len]; omega, fparts_join hn hL hk hq q (acc ++ x) _ (by rw [app_len]; omega)⟩
  | _ :: r, _, .int (i := i) hm hi hl hd q, acc, t, h => by
    have e0 : ∀ e : Expr, evalEach (e :: r) env = eval e env :: evalEach r env := fun e => by first | rfl | simp [evalEach]
    rw [e0]
    have hlen : (Str.ofString (toString i)).length ≤ 301 := by
      rw [PySem.ofString_length]
      exact int_text_length_le10 (by decide) hi
    refine wpAny_FormattedValue_plain (ldX hn hm ?_ hL hk hl hd)
    refine wpAny_formatField_int (log_lt hi) ⟨_, _, rfl, ?_, fparts_join hn hL hk hq q _ _ ?_⟩
    · rw [app_len]; show acc.length + (Str.ofString (toString i)).length ≤ sizeLine; omega
    · rw [app_len]; show acc.length + (Str.ofString (toString i)).length + _ ≤ sizeLine; omega
  | _ :: r, _, .str (x := x) hm hi hl hd q, acc, t, h => by
    have e0 : ∀ e : Expr, evalEach (e :: r) env = eval e env :: evalEach r env := fun e => by first | rfl | simp [evalEach]
    rw [e0]
    refine wpAny_FormattedValue_plain (ldX hn hm ?_ hL hk hl hd)
    exact wpAny_formatField_str ⟨x, _, rfl, by rw [app_len]; omega, fparts_join hn hL hk hq q (acc ++ x) _ (by rw [app_len]; omega)⟩ ⟨x, _, rfl, by rw [app_len]; omega, fparts_join hn hL hk hq q (acc ++ x) _ (by rw [app_len]; omega)⟩ (by rw [sizeLine_eq]; omega)
theorem fparts_eval {hp : Heap} {g : Array GenState} {d : Drawn} {os : OsState} {t : Nat} (hn : hp.Ns L m) (hL : env.locals = L) (hk : env.scope.kind = .function) {Q1 : Value → Shared → Prop} (hq : ∀ v t2, Q1 v ⟨hp, g, d, t2, os⟩) {v1 v2 : Expr} {r : List Expr} {n : Nat} {pos : Pos} (q : FParts m env (v1 :: v2 :: r) n) (hz : n ≤ 16000000) :
    wpAny (model prog w) A (eval (.JoinedStr (v1 :: v2 :: r) pos) env) Q1 E ⟨hp, g, d, t, os⟩ :=
  wpAny_JoinedStr (fparts_join hn hL hk hq q Str.empty t (by rw [sizeLine_eq]; show 0 + n ≤ 16777216; omega))
end
/-! ### a made error -/
/-- __init__ of the class at C, called with us, leaves the dict mA -/
def InitOk (prog : Program) (w : World) (K : Frag) (C fI : Addr) (us : List Value) (mA : Str → Option Value) : Prop := ∀ (A : Around) (hp : Heap) (g : Array GenState) (d : Drawn) (t : Nat) (os : OsState) (x t0 : Addr) (R : Result → Shared → Prop) (mg mb : Str → Option Value),
  K.In hp → hp.NoLimit → hp.Ns mainGlobals mg → mg "super" = none → hp.Ns builtinsNs mb → mb "super" = some (.type "super") → hp.get? x = some (excO C t0) → K.lookup x = none → A.depth < recursionLimit →
  (∀ h' tk dx t1, InitEnd hp h' x C dx t1 mA → R (.ok (.ret .none)) ⟨h', g, d, tk, os⟩) → codeAny (model prog w) A (.call (.ref fI) ⟨.ref x :: us, []⟩) R ⟨hp, g, d, t, os⟩
structure OwnMade (h h' : Heap) (e C d : Addr) (mA : Str → Option Value) : Prop where
  keep : ∀ b o, h.get? b = some o → h'.get? b = some o
  new : h.objs.size ≤ e
  obj : ∃ oe vs, h'.get? e = some oe ∧ oe.cls = .ref C ∧ oe.dict = some d ∧ oe.data = .fields vs ∧ vs[1]? = some .none
  dbig : h.objs.size ≤ d
  dne : d ≠ e
  ns : h'.Ns1 d mA
section
variable {prog : Program} {w : World} {A : Around} {R : Result → Shared → Prop} {s : Shared} {K : Frag} {C fI cc cda : Addr} {qual : Str} {params : Arguments} {body : List Stmt} {scope : Scope}
theorem ec_made (T : EcTxt prog K C fI cc cda qual params body scope) {us : List Value} {mA : Str → Option Value} (J : InitOk prog w K C fI us mA) {mg mb : Str → Option Value} (X : K.In s.heap) (hlim : s.heap.NoLimit) (hG : s.heap.Ns mainGlobals mg) (hsup : mg "super" = none) (hB : s.heap.Ns builtinsNs mb) (hmb : mb "super" = some (.type "super"))
    (hroom : A.depth + 1 < recursionLimit) (hz : us.length ≤ sizeLine)
    (hq : ∀ h' tk e d, OwnMade s.heap h' e C d mA → R (.ok (.ret (.ref e))) { s with heap := h', toks := tk }) :
    codeAny (model prog w) A (.call (.ref C) ⟨us, []⟩) R s := by
  obtain ⟨nm, q, N, bs, bm, sn, sub, ab, col, dd, k0, k1, k2, k3, k5, hC, hbm⟩ := T.cls
  obtain ⟨hp, g, dr, tk, os⟩ := s
  have k : ∀ b o, hp.get? b = some o → ((hp.push (kdv_tup us)).push (excO C hp.objs.size)).get? b = some o := fun b o e => Heap.get?_push_of_some _ (Heap.get?_push_of_some _ e)
  have hget : ((hp.push (kdv_tup us)).push (excO C hp.objs.size)).get? (hp.objs.size + 1) = some (excO C hp.objs.size) := by heap_get
  have hnx : K.lookup (hp.objs.size + 1) = none := by
    cases e : K.lookup (hp.objs.size + 1) with
    | none => rfl
    | some o =>
      have z : hp.get? (hp.objs.size + 1) = some o := X _ _ e
      exact absurd (Nat.lt_of_succ_lt (Heap.lt_size z)) (Nat.lt_irrefl _)
  refine call_own F.excBase_ValueError (fun X => refsVE_contains X bm hbm) (X _ _ hC) (looks_findIn X T.iC) (fun self => bind_fn X self T.tC) hz ?_
  refine J _ _ g dr tk os (hp.objs.size + 1) hp.objs.size _ mg mb (X.keeps k) (hlim.keeps k) (hG.keeps k) hsup (hB.keeps k) hmb hget hnx ?_ fun h' tk' dx t1 ⟨k', hx, dn, dne, hns⟩ => ?_
  · show A.depth + 1 < recursionLimit
    exact hroom
  · have old : ∀ b o, hp.get? b = some o → h'.get? b = some o := fun b o e => k' b o (Nat.ne_of_lt (Nat.lt_succ_of_lt (Heap.lt_size e))) (k b o e)
    have z : hp.objs.size + 1 + 1 ≤ dx := by
      first
        | (simpa only [Heap.size_push] using dn)
        | exact dn
        | (have q := dn; rw [Heap.size_push, Heap.size_push] at q; exact q)
    exact ⟨rfl, hq h' tk' (hp.objs.size + 1) dx ⟨old, Nat.le_succ _, ⟨_, _, hx, rfl, rfl, rfl, rfl⟩, Nat.le_trans (Nat.le_trans (Nat.le_succ _) (Nat.le_succ _)) z, dne, hns⟩⟩
end
end Mx
namespace L2
open PySem PySem.Spec PyProof.Rows
section
variable {X : Cx} {C fI cc cda : Addr} {qual : Str} {params : Arguments} {body : List Stmt} {scope : Scope}
/-- C(e, ..): its arguments' promise ok, its dict's fields fs -/
def tMkE (C : Addr) (ok : List V → Prop) (fs : List V → List (Str × V)) (ta : TA) : St → Hp → XK → Prop := fun σ H Q => ta σ H fun vs H1 => ok vs ∧ ∀ d, H1 d = none → Q (.ref C) (some d) (upd H1 d (.xd (fs vs)))
theorem pmk_ec {e : Expr} {es : List Expr} {ta : TA} {p pos : Pos} {k : Nat} {x : Str} {ok : List V → Prop} {fs : List V → List (Str × V)} (T : Mx.EcTxt X.prog X.K C fI cc cda qual params body scope) (hsup : X.mg "super" = none) (hbs : bootBuiltins "super" = some (.type "super"))
    (J : ∀ (vs : List V) (us : List Value), Vals vs us → ok vs → us.length ≤ sizeLine ∧ ∃ mA : Str → Option Value, Mx.InitOk X.prog X.w X.K C fI us mA ∧ ∀ f, RelO ((fs vs).lookup f) (mA f))
    (hr : Room k X.A) (ha : PA X (e :: es) ta) (hm : X.mg x = some (.ref C)) (hg : Gl X x := by rfl) (hdb : (x == ("__debug__" : Str)) = false := by decide)
    (he : starEach (e :: es) X.env = (false, eval e X.env) :: starEach es X.env := by rfl) (hpl : (backTo pos (starEach es X.env)).any (·.1) = false := by rfl) :
    PMk X (.Call (.Name x p) (e :: es) [] pos) (tMkE C ok fs ta) := by
  intro pins s σ H Q I h
  refine wpAny_Call_Name_kw (ld_glob I hg hm ?_ hdb)
  refine PySem.W.callWith_K (h₀ := X.base) I.ok.mod.kin T.kC (thn (ha.run pos pins s σ H _ I h) fun us s1 hh => ?_) he hpl
  obtain ⟨vs, H1, I1, r1, hok, q1⟩ := hh
  refine ⟨I1.kIn, ?_⟩
  obtain ⟨hz, mA, Ji, hrel⟩ := J vs us r1 hok
  show wpAny _ _ (call (.ref C) us) _ _ _
  have hlim := I1.nolimit
  obtain ⟨mb, hB, hb2⟩ := I1.mod.blt
  have hBk := hB.keeps I1.bk
  have hGk := I1.mod.glob.keeps I1.bk
  have hmb : mb "super" = some (.type "super") := (hb2 "super" (by decide +kernel)).trans hbs
  have hIk := I1.kIn
  obtain ⟨hp, g, dr, tk, os⟩ := s1
  refine wpAny_call (Mx.ec_made T Ji hIk hlim hGk hsup hBk hmb (by have := hr.dp; omega) hz fun h' tk' e d M => ?_)
  show MkP X pins σ Q (.ref e) ⟨h', g, dr, tk', os⟩
  obtain ⟨oe, fv, hoe, hc, hd, hdat, h1⟩ := M.obj
  have hns := M.ns
  obtain ⟨G', g1, g2⟩ := restrict h' fun b => decide (b ≠ e)
  have gk : ∀ b, b ≠ e → G'.get? b = h'.get? b := fun b hb => g1 b (decide_eq_true hb)
  have ge : G'.get? e = none := g2 e (by simp)
  have old : ∀ b o, hp.get? b = some o → G'.get? b = some o := fun b o q => (gk b (Nat.ne_of_lt (Nat.lt_of_lt_of_le (Heap.lt_size q) M.new))).trans (M.keep b o q)
  have ob : ObjOk X.prog X.w (upd H1 d (.xd (fs vs))) G' d (.xd (fs vs)) := ⟨_, hns.at (fun o q => (gk d M.dne).trans q), hrel⟩
  have J : Inv X pins σ (upd H1 d (.xd (fs vs))) ⟨G', g, dr, tk', os⟩ := I1.laid (t' := tk') old M.dbig ob
  refine ⟨e, oe, fv, ⟨G', g, dr, tk', os⟩, _, .ref C, some d, rfl, J, fun b o q => ?_, ge, hoe, ⟨hc, hd⟩, hdat, h1, ?_, rfl, I1.bare, raises_own T.exC T.tyC, q1 d (I1.hok.fresh M.dbig)⟩
  · by_cases hb : b = e
    · have q' : G'.get? b = some o := q
      rw [hb, ge] at q'; cases q'
    · exact (gk b hb).symm.trans q
  · rw [upd_ne (Ne.symm M.dne)]
    exact I1.hok.fresh M.new
end
end L2
set_option Elab.async false
set_option linter.all false
set_option maxRecDepth 100000
set_option maxHeartbeats 4000000
/-! Mx2: own errors of one field, of two fields. -/
namespace Mx
open PySem PySem.W PySem.Calls PyProof.Rows PySem.HandSPX
abbrev prm1 (f : Str) (a1 a2 : Pos) : Arguments := ⟨[], [⟨"self", none, a1⟩, ⟨f, none, a2⟩], none, [], [], none, []⟩
abbrev prm2 (f g : Str) (a1 a2 a3 : Pos) : Arguments := ⟨[], [⟨"self", none, a1⟩, ⟨f, none, a2⟩, ⟨g, none, a3⟩], none, [], [], none, []⟩
abbrev say (es : List Expr) (p0 p1 p2 p3 p4 p5 : Pos) : Stmt := .Expr (.Call (.Attribute (.Call (.Name "super" p0) [] [] p1) "__init__" p2) [.JoinedStr es p5] [] p3) p4
abbrev put1 (f : Str) (q1 q2 q3 q4 : Pos) : Stmt := .Assign [.Attribute (.Name "self" q1) f q2] (.Name f q3) q4
abbrev scp1 (f : Str) : Scope := ⟨.function, [("self", .local), (f, .local), ("__class__", .free), ("super", .globalImplicit)], false, false, []⟩
abbrev scp2 (f g : Str) : Scope := ⟨.function, [("self", .local), (f, .local), (g, .local), ("__class__", .free), ("super", .globalImplicit)], false, false, []⟩
section
variable {prog : Program} {w : World} {K : Frag} {C fI cc cda : Addr} {qual f : Str} {a1 a2 a3 p0 p1 p2 p3 p4 p5 q1 q2 q3 q4 q5 q6 q7 q8 : Pos} {v1 v2 : Expr} {r : List Expr} {n : Nat} {u : Value}
theorem Ns1.toNs {h : Heap} {d : Addr} {m : Str → Option Value} (x : h.Ns1 d m) : h.Ns d m := x.ns
theorem init1 {pl : Addr → Sem Bool} (T : EcTxt prog K C fI cc cda qual (prm1 f a1 a2) [say (v1 :: v2 :: r) p0 p1 p2 p3 p4 p5, put1 f q1 q2 q3 q4] (scp1 f)) (no : findIn K (.ref C) f = some none) (htop : (prog.main.scope.names.lookup ("super" : Str)).isSome = false)
    (hcall : ∀ L : Addr, eval (.Call (.Attribute (.Call (.Name "super" p0) [] [] p1) "__init__" p2) [.JoinedStr (v1 :: v2 :: r) p5] [] p3) (ksEnv qual (scp1 f) L fI (.ref cda) cc) = (do
      let ov ← attributeBase (.Call (.Name "super" p0) [] [] p1) "__init__" (ksEnv qual (scp1 f) L fI (.ref cda) cc) (eval (.Call (.Name "super" p0) [] [] p1) (ksEnv qual (scp1 f) L fI (.ref cda) cc))
      standAt p2.atName
      let (fm, first) ← holding [ov] (getMethod ov "__init__" (pl L))
      callWith p3 fm first (backTo p3 (starEach [.JoinedStr (v1 :: v2 :: r) p5] (ksEnv qual (scp1 f) L fI (.ref cda) cc))) (backToKw p3 (keywordEach [] (ksEnv qual (scp1 f) L fI (.ref cda) cc)))))
    (hbind : ∀ (x : Addr) (u : Value) (doc pm : Value) (an : Option Addr) (ct : Value) (s : Shared), BindsTo s (ksFn "__init__" qual (prm1 f a1 a2) [say (v1 :: v2 :: r) p0 p1 p2 p3 p4 p5, put1 f q1 q2 q3 q4] (scp1 f) .none .none doc pm an (.ref cda) ct cc) ⟨[.ref x, u], []⟩ [("self", .ref x), (f, u)])
    (hf : (f == ("__debug__" : Str)) = false) (hf2 : (f == ("self" : Str)) = false) (hf3 : ("super" : Str) ≠ f) (hf4 : ("__class__" : Str) ≠ f)
    (hP : ∀ (x : Addr) (L : Addr), FParts (fun y => [(("self" : Str), Value.ref x), (f, u)].reverse.lookup y) (ksEnv qual (scp1 f) L fI (.ref cda) cc) (v1 :: v2 :: r) n) (hz : n ≤ 16000000) : InitOk prog w K C fI [u] (fun z => if z = f then some u else none) := by
  intro A hp g d t os x t0 R mg mb X hlim hG hsup hB hmb hx hnx hroom hR
  have hfs : f ≠ "self" := fun e => by rw [e] at hf2; exact absurd hf2 (by decide)
  have l1 : [(("self" : Str), Value.ref x), (f, u)].reverse.lookup ("self" : Str) = some (.ref x) := by
    show List.lookup ("self" : Str) [(f, u), (("self" : Str), Value.ref x)] = _
    rw [List.lookup_cons, (beq_eq_false_iff_ne.mpr (Ne.symm hfs) : (("self" : Str) == f) = false)]
    rfl
  have l2 : [(("self" : Str), Value.ref x), (f, u)].reverse.lookup f = some u := by
    show List.lookup f [(f, u), (("self" : Str), Value.ref x)] = _
    rw [List.lookup_cons, beq_self_eq_true]
  have sc : (scp1 f).names.lookup f = some .local := by
    show List.lookup f [(("self" : Str), NameKind.local), (f, .local), ("__class__", .free), ("super", .globalImplicit)] = _
    rw [List.lookup_cons, hf2, List.lookup_cons, beq_self_eq_true]
  have s1 : (scp1 f).names.lookup ("super" : Str) = some .globalImplicit := by
    show List.lookup ("super" : Str) [(("self" : Str), NameKind.local), (f, .local), ("__class__", .free), ("super", .globalImplicit)] = _
    rw [List.lookup_cons, (by decide : (("super" : Str) == "self") = false), List.lookup_cons, beq_eq_false_iff_ne.mpr hf3]
    rfl
  have s2 : (scp1 f).names.lookup ("__class__" : Str) = some .free := by
    show List.lookup ("__class__" : Str) [(("self" : Str), NameKind.local), (f, .local), ("__class__", .free), ("super", .globalImplicit)] = _
    rw [List.lookup_cons, (by decide : (("__class__" : Str) == "self") = false), List.lookup_cons, beq_eq_false_iff_ne.mpr hf4]
    rfl
  refine ex_init (binds := [("self", .ref x), (f, u)]) (ar := ⟨"self", none, a1⟩) T rfl X hlim hG hsup hB hmb hx hnx rfl l1 s1 s2 rfl rfl rfl rfl (fun y hy => ?_) (fun y hy => ?_) htop hroom (fun doc pm an ct s => hbind x u doc pm an ct s) (fun E h1 t1 Q1 hn hq => ?_) rfl rfl rfl (hcall _) (fun E h2 tk t1 kk X2 e2 hn => ?_)
  · have hy : y ∈ [(("self" : Str), NameKind.local), (f, .local), ("__class__", .free), ("super", .globalImplicit)] := hy
    simp only [List.mem_cons, List.not_mem_nil, or_false] at hy
    rcases hy with rfl | rfl | rfl | rfl <;> (intro z; cases z)
  · simp only [List.mem_cons, List.not_mem_nil, or_false] at hy
    rcases hy with rfl | rfl
    · rfl
    · exact sc
  · exact fparts_eval hn rfl rfl hq (hP x _) hz
  · refine wpAny_execs_cons (store_first (sf := "self") (x := x) T X2 hn e2 l1 l2 no rfl rfl rfl sc (by decide) hf rfl fun h' tk' dx J => ?_)
    refine wpAny_execs_nil (hR h' tk' dx t1 ⟨fun b o hb e => J.keep b o hb (kk b o hb e), J.obj, ?_, J.dne, J.ns⟩)
    have := J.dbig
    have hsz : hp.objs.size ≤ h2.objs.size := by
      by_cases z : hp.objs.size ≤ h2.objs.size
      · exact z
      · exfalso
        obtain ⟨o, es, ep, ho, _⟩ := hn
        exact z (Nat.le_of_lt (Heap.lt_size ho))
    exact Nat.le_trans hsz this
end
end Mx
set_option Elab.async false
set_option linter.all false
set_option maxRecDepth 100000
set_option maxHeartbeats 4000000
/-! Ml11: raise, try, isinstance. -/
namespace Ml
open PySem L2
section
variable {K : PySem.W.Frag} {T : Tab} {F : Fc} {W : WX} {X : Cx} {pos pos2 p : Pos} {H H0 : Hp} {m : EM D} {ma mb : EM AD}
/-! ### raise C(a, ..) -/
def s_exc (c : Nat) (f : List D → Option (List D)) (m : EM (List AD)) : SM := fun r => (m r).seq fun as r => match dats as with
  | some ds => (match f ds with
    | some gs => .exc c gs r
    | none => .bad)
  | none => .bad
theorem ms_exc {c : Nat} {f : List D → Option (List D)} {e : Expr} {ok : List V → Prop} {fs : List V → List (Str × V)} {mas : EM (List AD)} (hk : PMk X e (tMkE (T.cls c) ok fs (rdA K T F W mas))) (hc : X.calm = true) (tk : Takes X W)
    (hf : ∀ H0 vs ds gs, Reps K T H0 vs ds → f ds = some gs → ok vs ∧ ∃ ws, fs vs = (T.efl c).zip ws ∧ ws.length = (T.efl c).length ∧ Reps K T H0 ws gs) : PS X (.Raise (some e) none pos) (rdS K T F W (s_exc c f mas)) :=
  ps_weak (ps_raise hc tk hk) fun E σ H ⟨r, H0, R, w⟩ => by
    refine ⟨r, H0, R, WS.of w fun as r1 _ w1 vs H' H0' R' s hv => ?_⟩
    cases hd : dats as with
    | none => rw [hd] at w1; exact w1.elim
    | some ds =>
      rw [hd] at w1
      cases hg : f ds with
      | none => simp only [hg] at w1; exact w1.elim
      | some gs =>
        simp only [hg] at w1
        obtain ⟨o, ws, e1, e2, e3⟩ := hf H0' vs ds gs (hv.dats hd) hg
        exact ⟨o, fun d hd => w1 (some d) σ _ _ (R'.laid hd) (s.trans (Sub.fresh (R'.sub.gone hd))) (.inr ⟨d, ws, rfl, by rw [upd_same, e1], e2, e3.mono (Sub.fresh (R'.sub.gone hd))⟩)⟩
/-- what a text of an error can tell -/
def fVal : D → Bool
  | .int i => decide (i.natAbs < 10 ^ 60)
  | .str x => decide (x.length ≤ 1000000)
  | _ => false
def x_1 : List D → Option (List D)
  | [d] => if fVal d = true then some [d] else none
  | _ => none
def UOk (u : Value) : Prop := (∃ i tk, u = .int i tk ∧ i.natAbs < 10 ^ 300) ∨ ∃ x tk, u = .str x tk ∧ x.length ≤ 1000000
def VOk (v : V) : Prop := (∃ i, v = .int i ∧ i.natAbs < 10 ^ 300) ∨ ∃ x, v = .str x ∧ x.length ≤ 1000000
theorem VOk.u {v : V} {u : Value} (h : VOk v) (r : RelV v u) : UOk u := by
  rcases h with ⟨i, rfl, hi⟩ | ⟨x, rfl, hx⟩
  · obtain ⟨tk, q⟩ := (show ∃ t, u = Value.int i t from r); exact .inl ⟨i, tk, q, hi⟩
  · obtain ⟨tk, q⟩ := (show ∃ t, u = Value.str x t from r); exact .inr ⟨x, tk, q, hx⟩
theorem fVal_v {v : V} {d : D} (e : fVal d = true) (h : Rep K T H0 v d) : VOk v := by
  cases h with
  | int i => exact .inl ⟨i, rfl, Nat.lt_trans (of_decide_eq_true e) (by decide +kernel)⟩
  | str x => exact .inr ⟨x, rfl, of_decide_eq_true e⟩
  | _ => cases e
/-- an own error of one field f under the name x -/
structure Ex1 (P : Program) (w : World) (K : PySem.W.Frag) (mg : Str → Option Value) (T : Tab) (x : Str) (c : Nat) (f : Str) : Prop where
  txt : ∃ fI cc cda qual params body scope, Mx.EcTxt P K (T.cls c) fI cc cda qual params body scope ∧ ∀ u, UOk u → Mx.InitOk P w K (T.cls c) fI [u] fun z => if z = f then some u else none
  g : mg x = some (.ref (T.cls c))
  efl : T.efl c = [f]
  sup : mg "super" = none
theorem ms_exc1 {c k : Nat} {x f : Str} {e : Expr} {es : List Expr} {mas : EM (List AD)} (G : Ex1 X.prog X.w X.K X.mg T x c f) (hc : X.calm = true) (tk : Takes X W) (hr : Room k X.A) (ha : PA X (e :: es) (rdA X.K T F W mas)) (hg : Gl X x := by rfl) (hdb : (x == ("__debug__" : Str)) = false := by decide)
    (he : starEach (e :: es) X.env = (false, eval e X.env) :: starEach es X.env := by rfl) (hpl : (backTo pos2 (starEach es X.env)).any (·.1) = false := by rfl) :
    PS X (.Raise (some (.Call (.Name x p) (e :: es) [] pos2)) none pos) (rdS X.K T F W (s_exc c x_1 mas)) := by
  obtain ⟨fI, cc, cda, qual, params, body, scope, Tx, hI⟩ := G.txt
  refine ms_exc (ok := fun vs => ∃ v, vs = [v] ∧ VOk v) (fs := fun vs => [f].zip vs) (pmk_ec Tx G.sup (by decide +kernel) (fun vs us r h => ?_) hr ha G.g hg hdb he hpl) hc tk fun H0 vs ds gs h e => ?_
  · obtain ⟨v, rfl, hv⟩ := h
    cases r with
    | cons r1 r2 =>
      cases r2
      refine ⟨by rw [sizeLine_eq]; show 1 ≤ 16777216; decide, _, hI _ (hv.u r1), fun y => ?_⟩
      show RelO (List.lookup y [(f, v)]) _
      rw [List.lookup_cons]
      by_cases h : y = f
      · rw [if_pos h, h, beq_self_eq_true]; exact r1
      · rw [if_neg h, beq_eq_false_iff_ne.mpr h]; exact True.intro
  · unfold x_1 at e
    split at e
    · split at e
      · rename_i hd
        cases e
        cases h with
        | cons h1 h2 => cases h2; exact ⟨⟨_, rfl, fVal_v hd h1⟩, _, by rw [G.efl], by rw [G.efl]; rfl, .cons h1 .nil⟩
      · cases e
    · cases e
/-! ### try -/
def noX (r : Rho) : Bool := r.all fun s => match s with
  | .exv _ _ => false
  | _ => true
theorem noX_get {r : Rho} (h : noX r = true) {i : Nat} {c : Nat} {fs : List D} (e : r[i]? = some (.exv c fs)) : False := by
  have m := List.mem_of_getElem? e
  have := List.all_eq_true.mp h _ m
  cases this
def unX (i : Nat) : SO → SO
  | .nx r => if noX (r.set i .un) = true then .nx (r.set i .un) else .bad
  | .brk r => if noX (r.set i .un) = true then .brk (r.set i .un) else .bad
  | .cnt r => if noX (r.set i .un) = true then .cnt (r.set i .un) else .bad
  | .rt s r => if noX (r.set i .un ++ [s]) = true then .rt s (r.set i .un) else .bad
  | _ => .bad
def s_tryAs (hit : Nat → Option Bool) (i : Nat) (m su : SM) : SM := fun r => match m r with
  | .exc c fs r1 => (match hit c with
    | some true => if noX r1 = true then unX i (su (r1.set i (.exv c fs))) else .bad
    | some false => .exc c fs r1
    | none => .bad)
  | o => o
def s_try (hit : Nat → Option Bool) (m su : SM) : SM := fun r => match m r with
  | .exc c fs r1 => (match hit c with
    | some true => (match su r1 with
      | .exc _ _ _ => .bad
      | o => o)
    | some false => .exc c fs r1
    | none => .bad)
  | o => o
/-- the frame while the exception at a is held -/
abbrev Fc.at (F : Fc) (a : Addr) (cls : Value) (d : Option Addr) : Fc := { F with xv := fun a' cls' d' => a' = a ∧ cls' = cls ∧ d' = d }
theorem FpOk.toX {σ : L2.St} {r : Rho} {fp : Nat → List Addr} (f : FpOk K T F σ H H0 r fp) (n : noX r = true) {xv : Addr → Value → Option Addr → Prop} : FpOk K T { F with xv := xv } σ H H0 r fp := by
  refine ⟨fun i s e => ?_, f.out, f.nd, f.dj, f.mine⟩
  have q := f.slot i s e
  unfold SlotOk at q ⊢
  cases et : tree s with
  | some t => rw [et] at q; exact q
  | none =>
    rw [et] at q
    refine ⟨q.1, ?_⟩
    have z := q.2
    cases s with
    | exv c fs => exact (noX_get n e).elim
    | un => trivial
    | fz d => exact z
    | own ds => exact z.elim
    | obj c ds => exact z.elim
    | tr t => exact z.elim
theorem Rel.toX {σ : L2.St} {r : Rho} (R : Rel K T F σ H H0 r) (n : noX r = true) {xv : Addr → Value → Option Addr → Prop} : Rel K T { F with xv := xv } σ H H0 r := by
  obtain ⟨fp, f⟩ := R.fps
  exact ⟨R.len, R.sub, R.base, R.keep, R.there, R.new, ⟨fp, f.toX n⟩, R.pins⟩
theorem Rel.ofX {σ : L2.St} {r : Rho} {xv : Addr → Value → Option Addr → Prop} (R : Rel K T { F with xv := xv } σ H H0 r) (n : noX r = true) : Rel K T F σ H H0 r := Rel.toX (F := { F with xv := xv }) (xv := F.xv) R n
/-- a name is forgotten, or holds what the frame doesn't own -/
theorem Rel.setAt {σ : L2.St} {r : Rho} (R : Rel K T F σ H H0 r) {i : Nat} (hi : ∀ p ∈ F.R, p.1 ≠ i) {s : Slot} {u : Option V} (o : tree s = none) (h : SlotF K T F H H0 (some u) s) : Rel K T F (σ.set i u) H H0 (r.set i s) := by
  refine R.pick (fun j => some j) (by simpa using R.len) (fun j t e => ?_) (fun j k i h1 h2 => by cases h1; cases h2; rfl) fun p hp => by rw [List.getElem?_set_ne (Ne.symm (hi p hp))]; exact R.pins p hp
  by_cases hj : j = i
  · subst hj
    have hl : j < r.length := by
      have := (List.getElem?_eq_some_iff.mp e).1
      simpa using this
    rw [List.getElem?_set_self hl] at e
    cases e
    rw [List.getElem?_set_self (by rw [R.len]; exact hl)]
    exact .inl ⟨o, h⟩
  · rw [List.getElem?_set_ne (Ne.symm hj)] at e ⊢
    exact .inr ⟨j, rfl, e, rfl⟩
theorem Rel.unAtV {σ : L2.St} {r : Rho} {v : Option V} {s : Slot} (R : Rel K T F (σ ++ [v]) H H0 (r ++ [s])) (hl : σ.length = r.length) {i : Nat} (hi : ∀ p ∈ F.R, p.1 ≠ i) (pn : ∀ p ∈ F.R, σ[p.1]? = some (some (.ref p.2))) : Rel K T F (σ.set i none ++ [v]) H H0 (r.set i .un ++ [s]) := by
  refine R.pick (fun j => some j) (by simp [hl]) (fun j t e => ?_) (fun j k i h1 h2 => by cases h1; cases h2; rfl) fun p hp => ?_
  · by_cases hj : j < r.length
    · rw [List.getElem?_append_left (by simpa using hj)] at e
      rw [List.getElem?_append_left (by simpa [hl] using hj)]
      by_cases z : j = i
      · subst z
        rw [List.getElem?_set_self hj] at e
        cases e
        exact .inl ⟨rfl, trivial⟩
      · rw [List.getElem?_set_ne (Ne.symm z)] at e ⊢
        exact .inr ⟨j, rfl, by rw [List.getElem?_append_left hj]; exact e, by rw [List.getElem?_append_left (by rw [hl]; exact hj)]⟩
    · have hj' := Nat.le_of_not_lt hj
      rw [List.getElem?_append_right (by simpa using hj'), List.length_set] at e
      refine .inr ⟨j, rfl, by rw [List.getElem?_append_right hj']; exact e, ?_⟩
      rw [List.getElem?_append_right (by simpa [hl] using hj'), List.length_set, List.getElem?_append_right (by rw [hl]; exact hj')]
  · have q := pn p hp
    have l := (List.getElem?_eq_some_iff.mp q).1
    rw [List.getElem?_append_left (by simpa using l), List.getElem?_set_ne (Ne.symm (hi p hp))]
    exact q
/-- the suite's outcome, in the frame's own words -/
theorem WS.unX {xv : Addr → Value → Option Addr → Prop} {i : Nat} (hi : ∀ p ∈ F.R, p.1 ≠ i) {x : SO} {E E' : Ends} (h : WS K T F W (unX i x) H0 E) (h1 : ∀ σ H, E.nx (σ.set i none) H → E'.nx σ H) (h2 : ∀ v H, E.rt v H → E'.rt v H) (h3 : ∀ σ H, E.bk (σ.set i none) H → E'.bk σ H) (h4 : ∀ σ H, E.ct (σ.set i none) H → E'.ct σ H) :
    WS K T { F with xv := xv } W0 x H0 E' := by
  have back : ∀ {σ : L2.St} {H1 H01 : Hp} {r : Rho}, Rel K T { F with xv := xv } σ H1 H01 r → noX (r.set i .un) = true → Rel K T F (σ.set i none) H1 H01 (r.set i .un) := fun {σ H1 H01 r} R n =>
    Rel.ofX (xv := xv) (R.setAt (F := { F with xv := xv }) hi rfl trivial) n
  cases x with
  | nx r =>
    have h : WS K T F W (if noX (r.set i .un) = true then .nx (r.set i .un) else .bad) H0 E := h
    split at h
    · rename_i n
      exact fun σ' H' H0' R s => h1 _ _ (h _ _ _ (back R n) s)
    · exact h.elim
  | brk r =>
    have h : WS K T F W (if noX (r.set i .un) = true then .brk (r.set i .un) else .bad) H0 E := h
    split at h
    · rename_i n
      exact fun σ' H' H0' R s => h3 _ _ (h _ _ _ (back R n) s)
    · exact h.elim
  | cnt r =>
    have h : WS K T F W (if noX (r.set i .un) = true then .cnt (r.set i .un) else .bad) H0 E := h
    split at h
    · rename_i n
      exact fun σ' H' H0' R s => h4 _ _ (h _ _ _ (back R n) s)
    · exact h.elim
  | rt v r =>
    have h : WS K T F W (if noX (r.set i .un ++ [v]) = true then .rt v (r.set i .un) else .bad) H0 E := h
    split at h
    · rename_i n
      refine fun u σ' H' H0' R hl pn s => h2 _ _ (h u (σ'.set i none) H' H0' (Rel.ofX (xv := xv) (R.unAtV (F := { F with xv := xv }) hl hi pn) n) (by simpa using hl) (fun p hp => ?_) s)
      rw [List.getElem?_set_ne (Ne.symm (hi p hp))]
      exact pn p hp
    · exact h.elim
  | exc c fs r => exact h.elim
  | bad => exact h.elim
theorem ms_tryAs {io : List Nat} (hF : Io F io) {x n : Str} {cv : Value} (i : Nat) {body suite : List Stmt} {b₀ : Stmt} {np pos' : Pos} {m su : SM} (hit : Nat → Option Bool) (hh : ∀ c b, hit c = some b → PySem.W.exmOne X.K (.ref (T.cls c)) cv = some b)
    (hs : X.stack = X.env :: X.outer) (hf : X.env.frame = some X.env.locals) (hN : X.N.Nodup) (hc : Names X x cv) (tk : Takes X W)
    (hb : ∀ (W : WX) (pn : List (Addr × Obj)) (xe : Value → Shared → Prop), Takes (X.tr pn xe) W → PSs (X.tr pn xe) body (rdS X.K T F W m))
    (hsu : ∀ (a : Addr) (oe : Obj) (cls : Value) (d : Option Addr) (pn : List (Addr × Obj)), Zc cls d oe → (∃ vs, oe.data = .fields vs) → PSs (X.suite a ((a, oe) :: pn)) (b₀ :: suite) (rdS X.K T (F.at a cls d) W0 su))
    (hi : X.N[i]? = some n := by rfl) (hln : X.env.kindOf n = some .local := by rfl) (hio : io.contains i = false := by rfl) :
    PS X (.Try body [.ExceptHandler (some (.Name x np)) (some n) (b₀ :: suite) pos'] [] [] pos) (rdS X.K T F W (s_tryAs hit i m su)) := by
  refine ps_weak (ps_try_as hs hf hN hi hln hc tk (fun W pn xe tk' _ => hb W pn xe tk') hsu) fun E σ H ⟨r, H0, R, w⟩ => ⟨r, H0, R, ?_⟩
  unfold s_tryAs at w
  cases hm : m r with
  | nx r1 => rw [hm] at w; exact w
  | brk r1 => rw [hm] at w; exact w
  | cnt r1 => rw [hm] at w; exact w
  | rt v r1 => rw [hm] at w; exact w
  | bad => rw [hm] at w; exact w
  | exc c fs r1 =>
    rw [hm] at w
    intro dd σ' H' H0' R' s p
    cases hc : hit c with
    | none => simp only [hc] at w; exact w.elim
    | some b =>
      simp only [hc] at w
      refine ⟨b, hh c b hc, fun hbt a ha => ?_, fun hbf => ?_⟩
      · subst hbt
        by_cases nx : noX r1 = true
        · simp only [if_pos nx] at w
          refine ⟨r1.set i (.exv c fs), H0', ?_, ?_⟩
          · exact Rel.setAt (F := F.at a (.ref (T.cls c)) dd) (R'.toX nx) (hF.ne hio) rfl ⟨a, dd, rfl, ⟨rfl, rfl, rfl⟩, p⟩
          · exact WS.unX (hF.ne hio) (w.mono s) (fun _ _ h => h) (fun _ _ h => h) (fun _ _ h => h) (fun _ _ h => h)
        · simp only [if_neg nx] at w; exact w.elim
      · subst hbf
        exact w dd σ' H' H0' R' s p
theorem ms_try {x : Str} {cv : Value} {body suite : List Stmt} {b₀ : Stmt} {np pos' : Pos} {m su : SM} (hit : Nat → Option Bool) (hh : ∀ c b, hit c = some b → PySem.W.exmOne X.K (.ref (T.cls c)) cv = some b)
    (hs : X.stack = X.env :: X.outer) (hf : X.env.frame = some X.env.locals) (hc : Names X x cv) (tk : Takes X W)
    (hb : ∀ (W : WX) (pn : List (Addr × Obj)) (xe : Value → Shared → Prop), Takes (X.tr pn xe) W → PSs (X.tr pn xe) body (rdS X.K T F W m))
    (hsu : ∀ (a : Addr) (oe : Obj) (cls : Value) (d : Option Addr) (pn : List (Addr × Obj)), Zc cls d oe → (∃ vs, oe.data = .fields vs) → PSs (X.suite a ((a, oe) :: pn)) (b₀ :: suite) (rdS X.K T F W0 su)) :
    PS X (.Try body [.ExceptHandler (some (.Name x np)) none (b₀ :: suite) pos'] [] [] pos) (rdS X.K T F W (s_try hit m su)) := by
  refine ps_weak (ps_try_only hs hf hc tk (fun W pn xe tk' _ => hb W pn xe tk') hsu) fun E σ H ⟨r, H0, R, w⟩ => ⟨r, H0, R, ?_⟩
  unfold s_try at w
  cases hm : m r with
  | nx r1 => rw [hm] at w; exact w
  | brk r1 => rw [hm] at w; exact w
  | cnt r1 => rw [hm] at w; exact w
  | rt v r1 => rw [hm] at w; exact w
  | bad => rw [hm] at w; exact w
  | exc c fs r1 =>
    rw [hm] at w
    intro dd σ' H' H0' R' s p
    cases hc : hit c with
    | none => simp only [hc] at w; exact w.elim
    | some b =>
      simp only [hc] at w
      refine ⟨b, hh c b hc, fun hbt a ha => ?_, fun hbf => ?_⟩
      · subst hbt
        refine ⟨r1, H0', R', ?_⟩
        dsimp only at w
        cases hsu : su r1 with
        | nx r2 => rw [hsu] at w; exact WS.mono s w
        | brk r2 => rw [hsu] at w; exact WS.mono s w
        | cnt r2 => rw [hsu] at w; exact WS.mono s w
        | rt v r2 => rw [hsu] at w; exact WS.mono s w
        | exc c2 fs2 r2 => rw [hsu] at w; exact w.elim
        | bad => rw [hsu] at w; exact w.elim
      · subst hbf
        exact w dd σ' H' H0' R' s p
/-! ### the caught exception -/
theorem zip_lookup : ∀ {fs : List Str} {vs : List V} {j : Nat} {f : Str}, fs.Nodup → fs[j]? = some f → fs.length = vs.length → (fs.zip vs).lookup f = vs[j]?
  | [], _, _, _, _, h, _ => by simp at h
  | _ :: _, [], _, _, _, _, h => by simp at h
  | g :: fs, v :: vs, 0, f, _, h, _ => by simp at h; subst h; simp [List.lookup_cons]
  | g :: fs, v :: vs, j + 1, f, nd, h, hl => by
    have ne : f ≠ g := fun e => by
      subst e
      exact (List.nodup_cons.mp nd).1 (List.mem_of_getElem? (by simpa using h))
    rw [List.zip_cons_cons, List.lookup_cons, beq_eq_false_iff_ne.mpr ne]
    exact zip_lookup (List.nodup_cons.mp nd).2 (by simpa using h) (by simpa using hl)
/-- e.f, e caught, of the class c, f its j-th field -/
def e_xf (c i j : Nat) : EM D := fun r => match r[i]? with
  | some (.exv c' fs) => if c' = c then EO.opt fs[j]? r else .bad
  | _ => .bad
theorem me_xf {a : Addr} {oe : Obj} {cls : Value} {d : Option Addr} {pn : List (Addr × Obj)} {e : Expr} {n : Str} (c i j : Nat) (G : XfC X.K (T.cls c)) (hno : PySem.W.findIn X.K (.ref (T.cls c)) n = some none) (hj : (T.efl c)[j]? = some n) (nd : (T.efl c).Nodup)
    (hz : Zc cls d oe) (hf : ∃ vs, oe.data = .fields vs) (he : PE (X.suite a ((a, oe) :: pn)) e (tVar i)) (hb : attributeBase e n X.env (eval e X.env) = eval e X.env := by rfl) :
    PE (X.suite a ((a, oe) :: pn)) (.Attribute e n pos) (rdE X.K T (F.at a cls d) W (e_xf c i j)) := pe_weak (pe_xf G hno hz hf he hb) fun σ H Q ⟨r, H0, R, w⟩ => by
  unfold e_xf at w
  split at w
  · rename_i c' fs e
    split at w
    · rename_i hcc
      subst hcc
      obtain ⟨v, hv, w2⟩ := WG.opt w
      obtain ⟨a', d', e1, ⟨e2, e3, e4⟩, p⟩ := R.slotF e rfl
      subst e2 e4
      refine ⟨_, e1, rfl, e3.symm, ?_⟩
      rcases p with ⟨q1, q2, q3⟩ | ⟨dx, vs, q1, q2, q3, q4⟩
      · rw [q1] at hj; simp at hj
      · obtain ⟨u, hu, ru⟩ := q4.get hv
        exact ⟨dx, _, u, q1, R.sub _ _ q2, by rw [zip_lookup nd hj q3.symm]; exact hu, w2 u H H0 R (Sub.refl _) ru⟩
    · exact w.elim
  · exact w.elim
/-- isinstance(e, C), e caught -/
def e_xis (ans : Nat → Option Bool) (i : Nat) : EM D := fun r => match r[i]? with
  | some (.exv c _) => EO.opt ((ans c).map D.bl) r
  | _ => .bad
structure XisC (K : PySem.W.Frag) (C : Addr) (u : Value) (b : Bool) : Prop where
  ex : ExcC K C
  ans : PySem.W.kitOne K (.ref C) u = some b
theorem me_xis {a : Addr} {oe : Obj} {cls : Value} {d : Option Addr} {pn : List (Addr × Obj)} {e ce : Expr} {cv : V} {u : Value} {p : Pos} (ans : Nat → Option Bool) (i : Nat) (hcl : ClsV cv u) (ha : ∀ c b, ans c = some b → XisC X.K (T.cls c) u b)
    (hz : Zc cls d oe) (hf : ∃ vs, oe.data = .fields vs) (he : PE (X.suite a ((a, oe) :: pn)) e (tVar i)) (hce : PE (X.suite a ((a, oe) :: pn)) ce (tC cv)) (hm : X.mg "isinstance" = none) (hg : Gl X "isinstance" := by rfl)
    (hs : starEach (e :: [ce]) X.env = (false, eval e X.env) :: starEach [ce] X.env := by rfl) (hs2 : starEach (ce :: []) X.env = (false, eval ce X.env) :: starEach [] X.env := by rfl) (hpl : (backTo pos (starEach [ce] X.env)).any (·.1) = false := by rfl) :
    PE (X.suite a ((a, oe) :: pn)) (.Call (.Name "isinstance" p) [e, ce] [] pos) (rdE X.K T (F.at a cls d) W (e_xis ans i)) := by
  -- the answer, as a rule of calls
  have rule : CallR (X.suite a ((a, oe) :: pn)) (.builtin "isinstance") (fun xs H Q => ∃ (c : Nat) (b : Bool), xs = [.ref a, cv] ∧ cls = .ref (T.cls c) ∧ ans c = some b ∧ ((d = none) ∨ ∃ dx fs, d = some dx ∧ H dx = some (.xd fs)) ∧ Q (.bl b) H) := by
    intro pins s σ H xs us Q I r h
    obtain ⟨c, b, rfl, rfl, hb, hd, q⟩ := h
    cases r with
    | cons rx rr =>
      cases rr with
      | cons rt rr =>
        cases rr
        cases rx
        have ec := hcl.eq rt
        subst ec
        obtain ⟨hget, _⟩ := I.pin (a, oe) (List.mem_append.mpr (.inl List.mem_cons_self))
        obtain ⟨vs, hv⟩ := hf
        obtain ⟨G, ga⟩ := ha c b hb
        have J : ∃ od, PySem.W.InstAt s.heap a oe (T.cls c) od := by
          rcases hd with rfl | ⟨dx, fs, rfl, hx⟩
          · refine ⟨none, hget, hz.1, by unfold PySem.W.notCls; rw [hv] <;> rfl, ?_⟩
            rw [hz.2]; trivial
          · obtain ⟨mA, hns, _⟩ := (show ObjOk X.prog X.w H s.heap dx (.xd fs) from I.hok dx _ hx)
            obtain ⟨od, ho, _⟩ := lookIn_ns hns
            exact ⟨some od, hget, hz.1, by unfold PySem.W.notCls; rw [hv] <;> rfl, by rw [hz.2]; exact ho⟩
        obtain ⟨od, J⟩ := J
        have hcl : (PySem.W.clsIn X.K (T.cls c)).isSome = true := by
          obtain ⟨cd, hc, _⟩ := PySem.W.any_some G.hd
          rw [hc]; rfl
        exact PySem.W.kia_one (PySem.W.kitx_exc hcl G.hg G.hk G.hs G.ha G.hn G.ht G.hm) I.kIn J ga (fun z => nomatch z) fun tk => ⟨.bl b, H, I.kept (t' := tk) fun _ _ z => z, rfl, q⟩
  refine pe_weak (pe_callB (X := X.suite a ((a, oe) :: pn)) rule hg hm PyProof.Rows.boot_isinstance (pa_cons he (pa_cons hce pa_nil hs2) hs) (by decide) (by decide) hs hpl) fun σ H Q ⟨r, H0, R, w⟩ => ?_
  unfold e_xis at w
  split at w
  · rename_i c fs e
    obtain ⟨v, hv, w2⟩ := WG.opt w
    obtain ⟨a', d', e1, ⟨e2, e3, e4⟩, p⟩ := R.slotF e rfl
    subst e2 e4
    cases hb : ans c with
    | none => rw [hb] at hv; cases hv
    | some b =>
      rw [hb] at hv
      cases hv
      refine ⟨_, e1, c, b, rfl, e3.symm, hb, ?_, w2 _ H H0 R (Sub.refl _) (.bl _)⟩
      rcases p with ⟨_, _, q⟩ | ⟨dx, vs, q1, q2, q3, q4⟩
      · exact .inl q
      · exact .inr ⟨dx, _, q1, R.sub _ _ q2⟩
  · exact w.elim
end
end Ml
set_option Elab.async false
set_option linter.all false
set_option maxRecDepth 100000
set_option maxHeartbeats 4000000
/-! Ml12: trees of the frame's own: places within them, what changes there. -/
namespace Ml
open PySem L2
/-- the part of a tree at a path -/
def O.get : O → List Nat → Option O
  | t, [] => some t
  | .lst ts, k :: p => match ts[k]? with
    | some t => O.get t p
    | none => none
  | .tup ts, k :: p => match ts[k]? with
    | some t => O.get t p
    | none => none
  | .obj _ ts, k :: p => match ts[k]? with
    | some t => O.get t p
    | none => none
  | .fz _, _ :: _ => none
def O.put : O → List Nat → O → O
  | _, [], u => u
  | .lst ts, k :: p, u => match ts[k]? with
    | some t => .lst (ts.set k (O.put t p u))
    | none => .lst ts
  | .tup ts, k :: p, u => match ts[k]? with
    | some t => .tup (ts.set k (O.put t p u))
    | none => .tup ts
  | .obj c ts, k :: p, u => match ts[k]? with
    | some t => .obj c (ts.set k (O.put t p u))
    | none => .obj c ts
  | .fz d, _ :: _, _ => .fz d
def allFz : List O → Option (List D)
  | [] => some []
  | .fz d :: ts => (allFz ts).map (d :: ·)
  | _ => none
theorem allFz_eq : ∀ {ts : List O} {ds : List D}, allFz ts = some ds → ts = ds.map .fz
  | [], ds, h => by cases h; rfl
  | t :: ts, ds, h => by
    cases t with
    | fz d =>
      have h : (allFz ts).map (d :: ·) = some ds := h
      cases q : allFz ts with
      | none => rw [q] at h; cases h
      | some es => rw [q] at h; cases h; rw [allFz_eq q]; rfl
    | _ => cases h
/-- a tree as a slot: the plain words where they say it -/
def norm : O → Slot
  | .fz d => .fz d
  | .lst ts => match allFz ts with
    | some ds => .own ds
    | none => .tr (.lst ts)
  | .obj c ts => match allFz ts with
    | some ds => .obj c ds
    | none => .tr (.obj c ts)
  | .tup ts => .tr (.tup ts)
theorem norm_tree {t : O} (h : ∀ d, t ≠ .fz d) : tree (norm t) = some t := by
  cases t with
  | fz d => exact absurd rfl (h d)
  | lst ts =>
    show tree (match allFz ts with | some ds => Slot.own ds | none => Slot.tr (.lst ts)) = _
    cases e : allFz ts with
    | none => rfl
    | some ds =>
      show some (O.lst (ds.map .fz)) = _
      rw [← allFz_eq e]
  | obj c ts =>
    show tree (match allFz ts with | some ds => Slot.obj c ds | none => Slot.tr (.obj c ts)) = _
    cases e : allFz ts with
    | none => rfl
    | some ds =>
      show some (O.obj c (ds.map .fz)) = _
      rw [← allFz_eq e]
  | tup ts => rfl
/-- a slot's value as a tree -/
def toO : Slot → Option O
  | .fz d => some (.fz d)
  | s => tree s
section
variable {K : PySem.W.Frag} {T : Tab} {F : Fc} {W : WX} {X : Cx} {pos pos2 p : Pos} {H H0 H' H0' : Hp} {σ σ' : L2.St} {r r' : Rho}
theorem SlotOk.ofTree {u : Option (Option V)} {v : V} {t : O} {fp : List Addr} (hu : u = some (some v)) (h : TreeOk K T H H0 v t fp) : SlotOk K T F H H0 u (norm t) fp := by
  cases t with
  | fz d =>
    cases h with
    | fz q => exact ⟨rfl, v, hu, q⟩
  | lst ts => unfold SlotOk; rw [norm_tree (fun d z => by cases z)]; exact ⟨v, hu, h⟩
  | obj c ts => unfold SlotOk; rw [norm_tree (fun d z => by cases z)]; exact ⟨v, hu, h⟩
  | tup ts => unfold SlotOk; rw [norm_tree (fun d z => by cases z)]; exact ⟨v, hu, h⟩
theorem SlotOk.toTree {u : Option (Option V)} {s : Slot} {t : O} {fp : List Addr} (h : SlotOk K T F H H0 u s fp) (e : toO s = some t) : ∃ v, u = some (some v) ∧ TreeOk K T H H0 v t fp := by
  unfold SlotOk at h
  cases s with
  | fz d => cases e; obtain ⟨rfl, v, hu, q⟩ := h; exact ⟨v, hu, .fz q⟩
  | un => cases e
  | exv c ds => cases e
  | own ds => cases e; exact h
  | obj c ds => cases e; exact h
  | tr t' =>
    cases t' with
    | fz d => cases e
    | lst ts => cases e; exact h
    | tup ts => cases e; exact h
    | obj c ts => cases e; exact h
/-- other footprints -/
theorem Rel.refp (R : Rel K T F σ H H0 r) {fp : Nat → List Addr} (hl : σ'.length = r'.length) (f' : FpOk K T F σ' H H0 r' fp) (pins : ∀ p ∈ F.R, σ'[p.1]? = some (some (.ref p.2))) : Rel K T F σ' H H0 r' :=
  ⟨hl, R.sub, R.base, R.keep, R.there, R.new, ⟨fp, f'⟩, pins⟩
/-- from v along p stands w -/
inductive Kid (H : Hp) : V → List Nat → V → Prop
  | nil {v : V} : Kid H v [] v
  | lst {a : Addr} {vs : List V} {k : Nat} {u w : V} {p : List Nat} : H a = some (.lst vs) → vs[k]? = some u → Kid H u p w → Kid H (.ref a) (k :: p) w
  | tup {a : Addr} {vs : List V} {k : Nat} {u w : V} {p : List Nat} : H a = some (.tup vs) → vs[k]? = some u → Kid H u p w → Kid H (.ref a) (k :: p) w
  | ins {a C dx : Addr} {fs : List (Str × V)} {k : Nat} {f : Str} {u w : V} {p : List Nat} : H a = some (.ins C dx fs) → fs[k]? = some (f, u) → Kid H u p w → Kid H (.ref a) (k :: p) w
theorem Kid.det : ∀ {p : List Nat} {v w w' : V}, Kid H v p w → Kid H v p w' → w = w'
  | [], _, _, _, .nil, .nil => rfl
  | k :: p, _, _, _, .lst a b c, .lst a' b' c' => by rw [a] at a'; cases a'; rw [b] at b'; cases b'; exact Kid.det c c'
  | k :: p, _, _, _, .lst a b c, .tup a' b' c' => by rw [a] at a'; cases a'
  | k :: p, _, _, _, .lst a b c, .ins a' b' c' => by rw [a] at a'; cases a'
  | k :: p, _, _, _, .tup a b c, .lst a' b' c' => by rw [a] at a'; cases a'
  | k :: p, _, _, _, .tup a b c, .tup a' b' c' => by rw [a] at a'; cases a'; rw [b] at b'; cases b'; exact Kid.det c c'
  | k :: p, _, _, _, .tup a b c, .ins a' b' c' => by rw [a] at a'; cases a'
  | k :: p, _, _, _, .ins a b c, .lst a' b' c' => by rw [a] at a'; cases a'
  | k :: p, _, _, _, .ins a b c, .tup a' b' c' => by rw [a] at a'; cases a'
  | k :: p, _, _, _, .ins a b c, .ins a' b' c' => by rw [a] at a'; cases a'; rw [b] at b'; cases b'; exact Kid.det c c'
theorem Kid.snoc : ∀ {p : List Nat} {v w u : V} {k : Nat}, Kid H v p w → Kid H w [k] u → Kid H v (p ++ [k]) u
  | [], _, _, _, _, .nil, h => h
  | _ :: _, _, _, _, _, .lst a b c, h => .lst a b (Kid.snoc c h)
  | _ :: _, _, _, _, _, .tup a b c, h => .tup a b (Kid.snoc c h)
  | _ :: _, _, _, _, _, .ins a b c, h => .ins a b (Kid.snoc c h)
/-- a tree among others, and what follows when it changes -/
theorem TreesOk.nth : ∀ {ts : List O} {vs : List V} {fp : List Addr} {k : Nat} {t : O}, TreesOk K T H H0 vs ts fp → ts[k]? = some t → ∃ u l g rr, vs[k]? = some u ∧ TreeOk K T H H0 u t g ∧ fp = l ++ g ++ rr ∧
    ∀ H' t' g', (∀ b, b ∈ l ++ rr → H' b = H b) → TreeOk K T H' H0 u t' g' → TreesOk K T H' H0 vs (ts.set k t') (l ++ g' ++ rr)
  | [], _, _, _, _, _, e => by simp at e
  | t0 :: ts, _, _, 0, t, .cons (f := f) (g := g) a b, e => by
    simp at e
    subst e
    refine ⟨_, [], f, g, rfl, a, by simp, fun H' t' g' hh ht => ?_⟩
    rw [List.nil_append]
    refine .cons ht (b.mono (Sub.refl _) fun x m o e n => ⟨(hh x (by simpa using m)).trans e, n⟩)
  | t0 :: ts, _, _, k + 1, t, .cons (f := f) (g := g) a b, e => by
    obtain ⟨u, l, g1, rr, h1, h2, h3, h4⟩ := TreesOk.nth b (k := k) (t := t) (by simpa using e)
    refine ⟨u, f ++ l, g1, rr, by simpa using h1, h2, by rw [h3]; simp, fun H' t' g' hh ht => ?_⟩
    have q := h4 H' t' g' (fun x m => hh x (by
      rcases List.mem_append.mp m with m | m
      · simp [m]
      · simp [m])) ht
    have z := TreesOk.cons (K := K) (T := T) (H := H') (H0 := H0) (a.mono (Sub.refl _) fun x m o e n => ⟨(hh x (by simp [m])).trans e, n⟩) q
    rw [List.set_cons_succ]
    have e2 : f ++ l ++ g' ++ rr = f ++ (l ++ g' ++ rr) := by simp
    rw [e2]
    exact z
theorem TreeOk.at : ∀ {p : List Nat} {t t' : O} {v : V} {fp : List Addr}, TreeOk K T H H0 v t fp → O.get t p = some t' → ∃ w l g rr, Kid H v p w ∧ TreeOk K T H H0 w t' g ∧ fp = l ++ g ++ rr ∧
    ∀ H' t'' g', (∀ b, b ∈ l ++ rr → H' b = H b) → TreeOk K T H' H0 w t'' g' → TreeOk K T H' H0 v (O.put t p t'') (l ++ g' ++ rr)
  | [], t, _, v, fp, h, e => by
    unfold O.get at e
    cases e
    exact ⟨v, [], fp, [], .nil, h, by simp, fun H' t'' g' _ ht => by simpa [O.put] using ht⟩
  | k :: p, .fz d, _, _, _, h, e => by unfold O.get at e; cases e
  | k :: p, .lst ts, t', _, _, .lst (a := a) (fp := fp) q n r, e => by
    unfold O.get at e
    cases ek : ts[k]? with
    | none => rw [ek] at e; cases e
    | some tk =>
      rw [ek] at e
      obtain ⟨u, l, g, rr, h1, h2, h3, h4⟩ := r.nth ek
      obtain ⟨w, l2, g2, r2, k1, k2, k3, k4⟩ := TreeOk.at h2 e
      refine ⟨w, a :: (l ++ l2), g2, r2 ++ rr, .lst q h1 k1, k2, by rw [h3, k3]; simp, fun H' t'' g' hh ht => ?_⟩
      have z1 := k4 H' t'' g' (fun b m => hh b (by rcases List.mem_append.mp m with m | m <;> simp [m])) ht
      have z2 := h4 H' _ _ (fun b m => hh b (by rcases List.mem_append.mp m with m | m <;> simp [m])) z1
      have z3 := TreeOk.lst (K := K) (T := T) ((hh a (by simp)).trans q) n z2
      unfold O.put
      rw [ek]
      have e3 : a :: (l ++ l2) ++ g' ++ (r2 ++ rr) = a :: (l ++ (l2 ++ g' ++ r2) ++ rr) := by simp
      rw [e3]
      exact z3
  | k :: p, .tup ts, t', _, _, .tup (a := a) (fp := fp) q n r, e => by
    unfold O.get at e
    cases ek : ts[k]? with
    | none => rw [ek] at e; cases e
    | some tk =>
      rw [ek] at e
      obtain ⟨u, l, g, rr, h1, h2, h3, h4⟩ := r.nth ek
      obtain ⟨w, l2, g2, r2, k1, k2, k3, k4⟩ := TreeOk.at h2 e
      refine ⟨w, a :: (l ++ l2), g2, r2 ++ rr, .tup q h1 k1, k2, by rw [h3, k3]; simp, fun H' t'' g' hh ht => ?_⟩
      have z1 := k4 H' t'' g' (fun b m => hh b (by rcases List.mem_append.mp m with m | m <;> simp [m])) ht
      have z2 := h4 H' _ _ (fun b m => hh b (by rcases List.mem_append.mp m with m | m <;> simp [m])) z1
      have z3 := TreeOk.tup (K := K) (T := T) ((hh a (by simp)).trans q) n z2
      unfold O.put
      rw [ek]
      have e3 : a :: (l ++ l2) ++ g' ++ (r2 ++ rr) = a :: (l ++ (l2 ++ g' ++ r2) ++ rr) := by simp
      rw [e3]
      exact z3
  | k :: p, .obj c ts, t', _, _, .obj (a := a) (vs := vs) (fp := fp) q hl n r, e => by
    unfold O.get at e
    cases ek : ts[k]? with
    | none => rw [ek] at e; cases e
    | some tk =>
      rw [ek] at e
      obtain ⟨u, l, g, rr, h1, h2, h3, h4⟩ := r.nth ek
      obtain ⟨w, l2, g2, r2, k1, k2, k3, k4⟩ := TreeOk.at h2 e
      have hk : k < vs.length := (List.getElem?_eq_some_iff.mp h1).1
      have hf : ((T.flds c).zip vs)[k]? = some ((T.flds c)[k]'(by omega), u) := by
        rw [List.getElem?_zip_eq_some]
        exact ⟨List.getElem?_eq_getElem _, h1⟩
      refine ⟨w, a :: (l ++ l2), g2, r2 ++ rr, .ins q hf k1, k2, by rw [h3, k3]; simp, fun H' t'' g' hh ht => ?_⟩
      have z1 := k4 H' t'' g' (fun b m => hh b (by rcases List.mem_append.mp m with m | m <;> simp [m])) ht
      have z2 := h4 H' _ _ (fun b m => hh b (by rcases List.mem_append.mp m with m | m <;> simp [m])) z1
      have z3 := TreeOk.obj (K := K) (T := T) ((hh a (by simp)).trans q) hl n z2
      unfold O.put
      rw [ek]
      have e3 : a :: (l ++ l2) ++ g' ++ (r2 ++ rr) = a :: (l ++ (l2 ++ g' ++ r2) ++ rr) := by simp
      rw [e3]
      exact z3
theorem TreesOk.append : ∀ {vs ws : List V} {ts us : List O} {f g : List Addr}, TreesOk K T H H0 vs ts f → TreesOk K T H H0 ws us g → TreesOk K T H H0 (vs ++ ws) (ts ++ us) (f ++ g)
  | _, _, _, _, _, _, .nil, s => s
  | _, _, _, _, _, _, .cons (f := f) (g := g) h r, s => by rw [List.append_assoc]; exact .cons h (TreesOk.append r s)
theorem Kid.mono : ∀ {p : List Nat} {t : O} {v w : V} {g : List Addr}, TreeOk K T H H0 v t g → Kid H v p w → (O.get t p).isSome = true → (∀ b ∈ g, H' b = H b) → Kid H' v p w
  | [], _, _, _, _, _, .nil, _, _ => .nil
  | k :: p, .fz d, _, _, _, _, _, e, _ => by unfold O.get at e; cases e
  | k :: p, .lst ts, _, w, _, .lst (a := a) q n r, kd, e, hh => by
    unfold O.get at e
    cases ek : ts[k]? with
    | none => rw [ek] at e; cases e
    | some tk =>
      rw [ek] at e
      obtain ⟨u, l, g, rr, h1, h2, h3, _⟩ := r.nth ek
      cases kd with
      | lst a1 a2 a3 =>
        rw [q] at a1; cases a1
        rw [h1] at a2; cases a2
        exact .lst ((hh a (by simp)).trans q) h1 (Kid.mono h2 a3 e fun b m => hh b (by rw [h3]; simp [m]))
      | tup a1 _ _ => rw [q] at a1; cases a1
      | ins a1 _ _ => rw [q] at a1; cases a1
  | k :: p, .tup ts, _, w, _, .tup (a := a) q n r, kd, e, hh => by
    unfold O.get at e
    cases ek : ts[k]? with
    | none => rw [ek] at e; cases e
    | some tk =>
      rw [ek] at e
      obtain ⟨u, l, g, rr, h1, h2, h3, _⟩ := r.nth ek
      cases kd with
      | tup a1 a2 a3 =>
        rw [q] at a1; cases a1
        rw [h1] at a2; cases a2
        exact .tup ((hh a (by simp)).trans q) h1 (Kid.mono h2 a3 e fun b m => hh b (by rw [h3]; simp [m]))
      | lst a1 _ _ => rw [q] at a1; cases a1
      | ins a1 _ _ => rw [q] at a1; cases a1
  | k :: p, .obj c ts, _, w, _, .obj (a := a) (vs := vs) q hl n r, kd, e, hh => by
    unfold O.get at e
    cases ek : ts[k]? with
    | none => rw [ek] at e; cases e
    | some tk =>
      rw [ek] at e
      obtain ⟨u, l, g, rr, h1, h2, h3, _⟩ := r.nth ek
      cases kd with
      | ins a1 a2 a3 =>
        rw [q] at a1; cases a1
        obtain ⟨_, b2⟩ := List.getElem?_zip_eq_some.mp a2
        rw [h1] at b2; cases b2
        exact .ins ((hh a (by simp)).trans q) a2 (Kid.mono h2 a3 e fun b m => hh b (by rw [h3]; simp [m]))
      | lst a1 _ _ => rw [q] at a1; cases a1
      | tup a1 _ _ => rw [q] at a1; cases a1
/-! ### places -/
/-- a slot, a path -/
abbrev PlM := Rho → Option (Nat × List Nat)
def subO (r : Rho) (i : Nat) (p : List Nat) : Option O := match r[i]? with
  | some s => (match tree s with
    | some t => O.get t p
    | none => none)
  | none => none
def rdK (K : PySem.W.Frag) (T : Tab) (F : Fc) (m : PlM) : TE := fun σ H Q => ∃ r H0 i p, Rel K T F σ H H0 r ∧ m r = some (i, p) ∧ ∀ v0 v, σ[i]? = some (some v0) → Kid H v0 p v → Q v H
def pl_var (i : Nat) : PlM := fun r => match r[i]? with
  | some s => if isOwn s = true then some (i, []) else none
  | none => none
def pl_fld (c j : Nat) (m : PlM) : PlM := fun r => match m r with
  | some (i, p) => (match subO r i p with
    | some (.obj c' ts) => if c' = c ∧ j < ts.length then some (i, p ++ [j]) else none
    | _ => none)
  | none => none
def pl_ix (k : Int) (m : PlM) : PlM := fun r => match m r with
  | some (i, p) => (match subO r i p with
    | some (.lst ts) => (ixN ts.length k).map fun j => (i, p ++ [j])
    | some (.tup ts) => (ixN ts.length k).map fun j => (i, p ++ [j])
    | _ => none)
  | none => none
/-- what stands at a place -/
theorem Rel.place (R : Rel K T F σ H H0 r) {i : Nat} {p : List Nat} {t' : O} (e : subO r i p = some t') : ∃ v0 w g, σ[i]? = some (some v0) ∧ Kid H v0 p w ∧ TreeOk K T H H0 w t' g := by
  obtain ⟨fp, f⟩ := R.fps
  unfold subO at e
  cases es : r[i]? with
  | none => rw [es] at e; cases e
  | some s =>
    rw [es] at e
    cases et : tree s with
    | none => simp only [et] at e; cases e
    | some t =>
      simp only [et] at e
      have q := f.slot i s es
      unfold SlotOk at q
      rw [et] at q
      obtain ⟨v0, e0, q⟩ := q
      obtain ⟨w, l, g, rr, h1, h2, _⟩ := q.at e
      exact ⟨v0, w, g, e0, h1, h2⟩
theorem mk_var {e : Expr} (i : Nat) (p : PE X e (tVar i)) : PE X e (rdK K T F (pl_var i)) := pe_weak p fun σ H Q ⟨r, H0, j, q, R, w, k⟩ => by
  unfold pl_var at w
  split at w
  · rename_i s e
    split at w
    · rename_i o
      cases w
      obtain ⟨a, u, q1, _⟩ := R.ownAt e o
      exact ⟨_, q1, k _ _ q1 .nil⟩
    · cases w
  · cases w
theorem zip_lookup2 : ∀ {fs : List Str} {vs : List V} {j : Nat} {f : Str} {v : V}, fs.Nodup → fs[j]? = some f → vs[j]? = some v → (fs.zip vs).lookup f = some v
  | [], _, _, _, _, _, h, _ => by simp at h
  | _ :: _, [], _, _, _, _, _, h => by simp at h
  | g :: fs, v :: vs, 0, f, _, _, h, h2 => by simp at h h2; subst h h2; simp [List.lookup_cons]
  | g :: fs, v :: vs, j + 1, f, _, nd, h, h2 => by
    have ne : f ≠ g := fun e => by
      subst e
      exact (List.nodup_cons.mp nd).1 (List.mem_of_getElem? (by simpa using h))
    rw [List.zip_cons_cons, List.lookup_cons, beq_eq_false_iff_ne.mpr ne]
    exact zip_lookup2 (List.nodup_cons.mp nd).2 (by simpa using h) (by simpa using h2)
theorem mk_fld {e : Expr} {f : Str} {m : PlM} (c j : Nat) (he : PE X e (rdK X.K T F m)) (hc : Cls X.K (T.cls c)) (hn : NoAttr X.K (T.cls c) f) (hj : (T.flds c)[j]? = some f) (nd : (T.flds c).Nodup) (hb : attributeBase e f X.env (eval e X.env) = eval e X.env := by rfl) :
    PE X (.Attribute e f pos) (rdK X.K T F (pl_fld c j m)) := pe_weak (pe_fld he hb) fun σ H Q ⟨r, H0, i, p, R, w, k⟩ => by
  unfold pl_fld at w
  cases hm : m r with
  | none => rw [hm] at w; cases w
  | some ip =>
    obtain ⟨i', p'⟩ := ip
    rw [hm] at w
    dsimp only at w
    split at w
    · rename_i c' ts es
      split at w
      · rename_i hh
        obtain ⟨rfl, hlt⟩ := hh
        cases w
        refine ⟨r, H0, i, p', R, hm, fun v0 v e0 hk => ?_⟩
        obtain ⟨v0', w, g, e0', hk', ht⟩ := R.place es
        have z := e0.symm.trans e0'
        cases z
        have zz := hk.det hk'
        subst zz
        cases ht with
        | obj q hl n tr =>
          rename_i a dx vs fp
          have hv : j < vs.length := by rw [tr.length]; exact hlt
          have ev : vs[j]? = some vs[j] := List.getElem?_eq_getElem hv
          refine ⟨a, T.cls c', dx, _, vs[j], rfl, q, hc, hn, zip_lookup2 nd hj ev, k _ _ e0 (hk.snoc (.ins (f := f) q (List.getElem?_zip_eq_some.mpr ⟨hj, ev⟩) .nil))⟩
      · cases w
    · cases w
theorem mk_ix {e b : Expr} {m : PlM} (k : Int) (he : PE X e (rdK X.K T F m)) (hb : PE X b (tC (.int k))) (hk : PlainIx b := by exact fun _ _ => rfl) : PE X (.Subscript e b pos) (rdK X.K T F (pl_ix k m)) := pe_weak (pe_ix ix_seq he hb hk) fun σ H Q ⟨r, H0, i, p, R, w, kk⟩ => by
  unfold pl_ix at w
  cases hm : m r with
  | none => rw [hm] at w; cases w
  | some ip =>
    obtain ⟨i', p'⟩ := ip
    rw [hm] at w
    dsimp only at w
    split at w
    · rename_i ts es
      cases hx : ixN ts.length k with
      | none => rw [hx] at w; cases w
      | some j =>
        rw [hx] at w
        cases w
        refine ⟨r, H0, i, p', R, hm, fun v0 v e0 hk => ?_⟩
        obtain ⟨v0', w, g, e0', hk', ht⟩ := R.place es
        have z := e0.symm.trans e0'
        cases z
        have zz := hk.det hk'
        subst zz
        cases ht with
        | lst q n tr =>
          rename_i a vs fp
          have hj : j < ts.length := (ixN_seq hx).2.1
          have hv : j < vs.length := by rw [tr.length]; exact hj
          have ev : vs[j]? = some vs[j] := List.getElem?_eq_getElem hv
          exact .inl ⟨a, vs, k, vs[j], rfl, rfl, SqL.of q, by unfold atI; rw [tr.length, hx]; exact ev, kk _ _ e0 (hk.snoc (.lst q ev .nil))⟩
    · rename_i ts es
      cases hx : ixN ts.length k with
      | none => rw [hx] at w; cases w
      | some j =>
        rw [hx] at w
        cases w
        refine ⟨r, H0, i, p', R, hm, fun v0 v e0 hk => ?_⟩
        obtain ⟨v0', w, g, e0', hk', ht⟩ := R.place es
        have z := e0.symm.trans e0'
        cases z
        have zz := hk.det hk'
        subst zz
        cases ht with
        | tup q n tr =>
          rename_i a vs fp
          have hj : j < ts.length := (ixN_seq hx).2.1
          have hv : j < vs.length := by rw [tr.length]; exact hj
          have ev : vs[j]? = some vs[j] := List.getElem?_eq_getElem hv
          exact .inr (.inl ⟨a, vs, k, vs[j], rfl, rfl, SqT.of q, by unfold atI; rw [tr.length, hx]; exact ev, kk _ _ e0 (hk.snoc (.tup q ev .nil))⟩)
    · cases w
/-! ### methods on places -/
/-- a method of lists called on a place: its arguments are data, made while the slot is hidden -/
def e_pm (m : PlM) (f : List O → List D → Option (D × List O)) (args : EM (List AD)) : EM D := fun r => match m r with
  | some (i, p) => (match r[i]? with
    | some s => (match tree s with
      | some t => (match O.get t p with
        | some (.lst ts) => (match args (r.set i .un) with
          | .ok as r2 => (match dats as with
            | some ds => (match f ts ds with
              | some (z, ts') => .ok z (r2.set i (norm (O.put t p (.lst ts'))))
              | none => .bad)
            | none => .bad)
          | _ => .bad)
        | _ => .bad)
      | none => .bad)
    | none => .bad)
  | none => .bad
def OpPm (K : PySem.W.Frag) (T : Tab) (rr : V → List V → Hp → VK → Prop) (f : List O → List D → Option (D × List O)) : Prop := ∀ a vs ts g xs ds z ts' H H0, Sub H0 H → H a = some (.lst vs) → TreesOk K T H H0 vs ts g → Reps K T H0 xs ds → f ts ds = some (z, ts') →
  ∀ Q : VK, (∀ v vs', Rep K T H0 v z → (∀ H', (∀ b ∈ g, H' b = H b) → TreesOk K T H' H0 vs' ts' g) → Q v (upd H a (.lst vs'))) → rr (.ref a) xs H Q
theorem ixLast {α : Type} {l : List α} {x : α} : (l ++ [x])[l.length]? = some x := by rw [List.getElem?_append_right (Nat.le_refl _), Nat.sub_self]; rfl
theorem setLast {α : Type} {l : List α} {x y : α} : (l ++ [x]).set l.length y = l ++ [y] := by rw [List.set_append_right _ _ (Nat.le_refl _), Nat.sub_self]; rfl
theorem put_nofz {t u : O} {p : List Nat} (h : ∀ d, t ≠ .fz d) (hu : ∀ d, u ≠ .fz d) : ∀ d, O.put t p u ≠ .fz d := fun d z => by
  cases p with
  | nil => exact hu d (by simpa [O.put] using z)
  | cons k p =>
    cases t with
    | fz d => exact h d rfl
    | lst ts => unfold O.put at z; split at z <;> cases z
    | tup ts => unfold O.put at z; split at z <;> cases z
    | obj c ts => unfold O.put at z; split at z <;> cases z
theorem rd_pm {m : PlM} {f : List O → List D → Option (D × List O)} {rr : V → List V → Hp → VK → Prop} {args : EM (List AD)} (hm : OpPm K T rr f) {ta : TA} (hta : ∀ F' σ H Q, F'.R = [] → rdA K T F' W0 args σ H Q → ta σ H Q) {Q : VK} (h : rdE K T F W (e_pm m f args) σ H Q) :
    tBM K "list" rr (rdK K T F m) ta σ H Q := by
  obtain ⟨r, H0, R, w⟩ := h
  unfold e_pm at w
  cases em : m r with
  | none => rw [em] at w; exact w.elim
  | some ip =>
    obtain ⟨i, p⟩ := ip
    rw [em] at w
    dsimp only at w
    cases es : r[i]? with
    | none => rw [es] at w; exact w.elim
    | some s =>
      rw [es] at w
      dsimp only at w
      cases et : tree s with
      | none => rw [et] at w; exact w.elim
      | some t =>
        rw [et] at w
        dsimp only at w
        split at w
        · rename_i ts eg
          have nft : ∀ d, t ≠ .fz d := fun d z => by
            obtain ⟨t', e', nf⟩ := own_tree (tree_own et)
            rw [et] at e'; cases e'; exact nf d z
          refine ⟨r, H0, i, p, R, em, fun v0 v e0 hk => ?_⟩
          have hlr : σ.length = (r.set i .un).length := by simpa using R.len
          obtain ⟨Fh, _, fR, RH, back, g, sg, same⟩ := (R.pull es e0).hide hlr
          unfold SlotOk at sg
          rw [et] at sg
          obtain ⟨v0', ev, tg⟩ := sg
          cases ev
          obtain ⟨w1, l1, g1, rr1, k1, k2, _⟩ := tg.at eg
          have zz := hk.det k1
          subst zz
          cases k2 with
          | @lst a vs1 _ fp1 q1 n1 tr1 =>
            refine ⟨.inl ⟨rfl, _, SqL.of q1⟩, hta Fh _ _ _ fR ⟨r.set i .un, H0, RH, ?_⟩⟩
            cases ea : args (r.set i .un) with
            | exc c fs r2 => rw [ea] at w; exact w.elim
            | bad => rw [ea] at w; exact w.elim
            | ok as r2 =>
              rw [ea] at w
              intro xs H2 H02 R2 s2 hxs
              dsimp only at w
              cases hd : dats as with
              | none => rw [hd] at w; exact w.elim
              | some ds =>
                rw [hd] at w
                dsimp only at w
                cases hf : f ts ds with
                | none => rw [hf] at w; exact w.elim
                | some z =>
                  obtain ⟨z, ts'⟩ := z
                  rw [hf] at w
                  obtain ⟨R3, s3⟩ := back σ H2 H02 r2 R2 fun q hq => by rw [List.getElem?_append_left (R.pinLt q hq)]; exact R.pins q hq
                  have hl2 := R3.lenL
                  obtain ⟨fp, ff⟩ := R3.fps
                  have sl := ff.slot r2.length s ixLast
                  have ul : (σ ++ [some v0])[r2.length]? = some (some v0) := by rw [← hl2]; exact ixLast
                  rw [ul] at sl
                  unfold SlotOk at sl
                  rw [et] at sl
                  obtain ⟨v0', ev, tl⟩ := sl
                  cases ev
                  obtain ⟨w2, l2, g2, rr2, j1, j2, j3, j4⟩ := tl.at eg
                  have kk := Kid.mono tg hk (by rw [eg]; rfl) (same σ H2 H02 r2 R2)
                  have zz := kk.det j1
                  subst zz
                  cases j2 with
                  | @lst _ vs2 _ fp2 q2 n2 tr2 =>
                    refine hm a vs2 ts fp2 xs ds z ts' H2 H02 R3.sub q2 tr2 (hxs.dats hd) hf Q fun v vs' hv hts => ?_
                    have nd := ff.nd r2.length
                    rw [j3] at nd
                    have na : ∀ b, b ∈ l2 ++ rr2 → b ≠ a := fun b m z => by
                      subst z
                      have nd' := nd
                      rcases List.mem_append.mp m with m | m
                      · have := (List.nodup_append.mp (List.nodup_append.mp nd').1).2.2 b m b List.mem_cons_self
                        exact this rfl
                      · have := (List.nodup_append.mp nd').2.2 b (by simp) b m
                        exact this rfl
                    have na2 : ∀ b ∈ fp2, b ≠ a := fun b m z => by
                      subst z
                      have nd2 := (List.nodup_append.mp (List.nodup_append.mp nd).1).2.1
                      exact (List.nodup_cons.mp nd2).1 m
                    have tnew := j4 (upd H2 a (.lst vs')) (.lst ts') (a :: fp2) (fun b m => upd_ne (na b m)) (.lst upd_same n2 (hts _ fun b m => upd_ne (na2 b m)))
                    rw [← j3] at tnew
                    have ha : a ∈ fp r2.length := by rw [j3]; simp
                    have R4 := R3.writeAt ff (k := r2.length) ha (o := .lst vs') (s := norm (O.put t p (.lst ts'))) (g := fp r2.length) (by rw [ul]; exact SlotOk.ofTree rfl tnew) (ff.nd _) fun b m => m
                    rw [setLast] at R4
                    have R5 := R4.back hl2 e0 R.pins
                    exact w v _ H02 R5 (s2.trans (Sub.refl _)) hv
        · exact w.elim
/-- x.append(d), x.extend(ds) -/
def g_append (ts : List O) : List D → Option (D × List O)
  | [d] => if ts.length < SZ then some (.non, ts ++ [.fz d]) else none
  | _ => none
theorem mg_append : OpPm K T rAppend g_append := fun a vs ts g xs ds z ts' H H0 s h1 h2 h3 e Q q => by
  unfold g_append at e; split at e
  · split at e
    · rename_i d hz
      cases e
      cases h3 with
      | cons h4 h5 =>
        cases h5
        refine ⟨a, vs, _, rfl, rfl, h1, by rw [← SZ_eq, h2.length]; exact hz, q _ _ .non fun H' hh => ?_⟩
        have z := (h2.mono (Sub.refl _) fun b m o e n => ⟨(hh b m).trans e, n⟩).append (TreesOk.cons (K := K) (T := T) (H := H') (TreeOk.fz h4) .nil)
        simpa using z
    · cases e
  · cases e
def g_extend (ts : List O) : List D → Option (D × List O)
  | [.lst ds] => if ts.length + ds.length ≤ SZ then some (.non, ts ++ ds.map .fz) else none
  | _ => none
theorem mg_extend : OpPm K T rExtend g_extend := fun a vs ts g xs ds z ts' H H0 s h1 h2 h3 e Q q => by
  unfold g_extend at e; split at e
  · split at e
    · rename_i es hz
      cases e
      cases h3 with
      | cons h4 h5 =>
        cases h5
        cases h4 with
        | lst k1 k2 =>
          rename_i b ws
          refine ⟨a, b, vs, ws, rfl, rfl, h1, s _ _ k1, by rw [← SZ_eq, h2.length, k2.length]; exact hz, q _ _ .non fun H' hh => ?_⟩
          have z := (h2.mono (Sub.refl _) fun b m o e n => ⟨(hh b m).trans e, n⟩).append (TreesOk.ofReps (K := K) (T := T) (H := H') k2)
          simpa using z
    · cases e
  · cases e
theorem me_pappend {o e : Expr} {es : List Expr} {m : PlM} {args : EM (List AD)} {apos : Pos} (ho : PE X o (rdK X.K T F m)) (ha : ∀ F', F'.R = [] → PA X (e :: es) (rdA X.K T F' W0 args)) (hbase : attributeBase o "append" X.env (eval o X.env) = eval o X.env := by rfl)
    (hfew : ((backTo pos (starEach (e :: es) X.env)).all (fun x => !x.1) && (backToKw pos (keywordEach [] X.env)).all (fun x => x.1.isSome)
      && decide ((e :: es).length + ([] : List Keyword).length + (if ([] : List Keyword).isEmpty then 0 else 1) < 30)) = true := by rfl)
    (hline : (apos.endLine == pos.line) = true := by rfl) (hs : starEach (e :: es) X.env = (false, eval e X.env) :: starEach es X.env := by rfl) (hplain : (backTo pos (starEach es X.env)).any (·.1) = false := by rfl) :
    PE X (.Call (.Attribute o "append" apos) (e :: es) [] pos) (rdE X.K T F W (e_pm m g_append args)) := by
  have pa : PA X (e :: es) (fun σ H Q => ∃ F', F'.R = [] ∧ rdA X.K T F' W0 args σ H Q) := ⟨fun pos pins s σ H Q I ⟨F', hF, q⟩ => (ha F' hF).run pos pins s σ H Q I q⟩
  exact pe_weak (pe_bm PySem.F.plainAttrs_list slot_list_append type_list_append mt_append ho pa hbase hfew hline hs hplain) fun σ H Q h => rd_pm mg_append (fun F' _ _ _ hF h => ⟨F', hF, h⟩) h
theorem me_pextend {o e : Expr} {es : List Expr} {m : PlM} {args : EM (List AD)} {apos : Pos} (ho : PE X o (rdK X.K T F m)) (ha : ∀ F', F'.R = [] → PA X (e :: es) (rdA X.K T F' W0 args)) (hbase : attributeBase o "extend" X.env (eval o X.env) = eval o X.env := by rfl)
    (hfew : ((backTo pos (starEach (e :: es) X.env)).all (fun x => !x.1) && (backToKw pos (keywordEach [] X.env)).all (fun x => x.1.isSome)
      && decide ((e :: es).length + ([] : List Keyword).length + (if ([] : List Keyword).isEmpty then 0 else 1) < 30)) = true := by rfl)
    (hline : (apos.endLine == pos.line) = true := by rfl) (hs : starEach (e :: es) X.env = (false, eval e X.env) :: starEach es X.env := by rfl) (hplain : (backTo pos (starEach es X.env)).any (·.1) = false := by rfl) :
    PE X (.Call (.Attribute o "extend" apos) (e :: es) [] pos) (rdE X.K T F W (e_pm m g_extend args)) := by
  have pa : PA X (e :: es) (fun σ H Q => ∃ F', F'.R = [] ∧ rdA X.K T F' W0 args σ H Q) := ⟨fun pos pins s σ H Q I ⟨F', hF, q⟩ => (ha F' hF).run pos pins s σ H Q I q⟩
  exact pe_weak (pe_bm PySem.F.plainAttrs_list PySem.F.slot_list_extend PySem.F.type_list_extend mt_extend ho pa hbase hfew hline hs hplain) fun σ H Q h => rd_pm mg_extend (fun F' _ _ _ hF h => ⟨F', hF, h⟩) h
end
end Ml
set_option Elab.async false
set_option linter.all false
set_option maxRecDepth 100000
set_option maxHeartbeats 4000000
/-! Ml13: parts of trees moved out and in; values side by side; borrowing; instances. -/
namespace Ml
open PySem L2
section
variable {K : PySem.W.Frag} {T : Tab} {F : Fc} {W : WX} {X : Cx} {pos pos2 : Pos} {H H0 H' H0' : Hp} {σ σ' : L2.St} {r r' : Rho}
theorem TreesOk.unsnoc : ∀ {ts : List O} {o : O} {vs : List V} {g : List Addr}, TreesOk K T H H0 vs (ts ++ [o]) g → ∃ vs0 y g0 go, vs = vs0 ++ [y] ∧ g = g0 ++ go ∧ TreesOk K T H H0 vs0 ts g0 ∧ TreeOk K T H H0 y o go
  | [], o, _, _, .cons (f := f) a .nil => ⟨[], _, [], f, rfl, by simp, .nil, a⟩
  | t :: ts, o, _, _, .cons (f := f) a b => by
    obtain ⟨vs0, y, g0, go, rfl, rfl, h1, h2⟩ := TreesOk.unsnoc b
    exact ⟨_ :: vs0, y, f ++ g0, go, rfl, by simp, .cons a h1, h2⟩
theorem lastCases {i n : Nat} {α : Type} {l : List α} {x y : α} (e : (l ++ [x])[i]? = some y) : (i = l.length ∧ y = x) ∨ (i < l.length ∧ l[i]? = some y) := by
  by_cases h : i < l.length
  · rw [List.getElem?_append_left h] at e; exact .inr ⟨h, e⟩
  · rw [List.getElem?_append_right (Nat.le_of_not_lt h)] at e
    have : i - l.length = 0 := by
      by_cases z : i - l.length = 0
      · exact z
      · rw [List.getElem?_eq_none (by simp; omega)] at e; cases e
    rw [this] at e
    cases e
    exact .inl ⟨by omega, rfl⟩
/-- a part of a slot's tree goes behind the slots, the rest stays (written or not) -/
theorem Rel.split {fp : Nat → List Addr} (R : Rel K T F σ H H0 r) (f : FpOk K T F σ H H0 r fp) {i : Nat} {v v0 : V} {s1 s2 : Slot} {g1 g2 : List Addr} {H' : Hp} (hi : i < r.length) (e0 : σ[i]? = some (some v0)) (h1 : SlotOk K T F H' H0 (some (some v0)) s1 g1) (h2 : SlotOk K T F H' H0 (some (some v)) s2 g2)
    (sub1 : ∀ b ∈ g1, b ∈ fp i) (sub2 : ∀ b ∈ g2, b ∈ fp i) (n1 : g1.Nodup) (n2 : g2.Nodup) (d12 : ∀ b ∈ g1, b ∉ g2) (oth : ∀ b, b ∉ fp i → H' b = H b) : FpOk K T F (σ ++ [some v]) H' H0 (r.set i s1 ++ [s2]) (fun j => if j = r.length then g2 else if j = i then g1 else fp j) := by
  refine ⟨fun j x e => ?_, fun j e => ?_, fun j => ?_, fun j k a m1 m2 => ?_, fun j a m => ?_⟩
  · rcases lastCases (n := 0) e with ⟨rfl, rfl⟩ | ⟨h, e'⟩
    · rw [List.length_set, ← R.len, ixLast]
      simp only [R.len, if_true]
      exact h2
    · have hj : j < r.length := by simpa using h
      rw [List.getElem?_append_left (by rw [R.len]; exact hj)]
      simp only [if_neg (show j ≠ r.length by omega)]
      by_cases z : j = i
      · subst z
        rw [List.getElem?_set_self hj] at e'
        cases e'
        simp only [if_true]
        rw [e0]; exact h1
      · rw [List.getElem?_set_ne (Ne.symm z)] at e'
        simp only [if_neg z]
        exact (f.slot j x e').mono (Sub.refl _) fun b m o e n => ⟨(oth b fun y => z (f.dj j i b m y)).trans e, n⟩
  · have l : (r.set i s1 ++ [s2]).length ≤ j := List.getElem?_eq_none_iff.mp e
    have l : r.length + 1 ≤ j := by simpa using l
    simp only [if_neg (show j ≠ r.length by omega), if_neg (show j ≠ i by omega)]
    exact f.out j (List.getElem?_eq_none (by omega))
  · try dsimp only
    split
    · exact n2
    · split
      · exact n1
      · exact f.nd j
  · have up : ∀ j, a ∈ (if j = r.length then g2 else if j = i then g1 else fp j) → (j = r.length ∧ a ∈ g2) ∨ (j ≠ r.length ∧ j = i ∧ a ∈ g1) ∨ (j ≠ r.length ∧ j ≠ i ∧ a ∈ fp j) := fun j m => by
      by_cases z : j = r.length
      · rw [if_pos z] at m; exact .inl ⟨z, m⟩
      · rw [if_neg z] at m
        by_cases y : j = i
        · rw [if_pos y] at m; exact .inr (.inl ⟨z, y, m⟩)
        · rw [if_neg y] at m; exact .inr (.inr ⟨z, y, m⟩)
    rcases up j m1 with ⟨a1, b1⟩ | ⟨a1, a2, b1⟩ | ⟨a1, a2, b1⟩
    · rcases up k m2 with ⟨c1, d1⟩ | ⟨c1, c2, d1⟩ | ⟨c1, c2, d1⟩
      · rw [a1, c1]
      · exact absurd b1 (d12 a d1)
      · exact absurd (f.dj k i a d1 (sub2 a b1)) c2
    · rcases up k m2 with ⟨c1, d1⟩ | ⟨c1, c2, d1⟩ | ⟨c1, c2, d1⟩
      · exact absurd d1 (d12 a b1)
      · rw [a2, c2]
      · exact absurd (f.dj k i a d1 (sub1 a b1)) c2
    · rcases up k m2 with ⟨c1, d1⟩ | ⟨c1, c2, d1⟩ | ⟨c1, c2, d1⟩
      · exact absurd (f.dj j i a b1 (sub2 a d1)) a2
      · exact absurd (f.dj j i a b1 (sub1 a d1)) a2
      · exact f.dj j k a b1 d1
  · try dsimp only at m
    split at m
    · exact f.mine i a (sub2 a m)
    · split at m
      · exact f.mine i a (sub1 a m)
      · exact f.mine j a m
theorem slotTree (R : Rel K T F σ H H0 r) {fp : Nat → List Addr} (f : FpOk K T F σ H H0 r fp) {i : Nat} {s : Slot} {t : O} (es : r[i]? = some s) (et : tree s = some t) : ∃ v0, σ[i]? = some (some v0) ∧ TreeOk K T H H0 v0 t (fp i) := by
  have q := f.slot i s es
  unfold SlotOk at q
  rw [et] at q
  exact q
/-- x.pop() of a place -/
def v_pop (m : PlM) : EM Slot := fun r => match m r with
  | some (i, p) => (match r[i]? with
    | some s => (match tree s with
      | some t => (match O.get t p with
        | some (.lst ts) => (match ts.getLast? with
          | some o => .ok (norm o) (r.set i (norm (O.put t p (.lst ts.dropLast))))
          | none => .bad)
        | _ => .bad)
      | none => .bad)
    | none => .bad)
  | none => .bad
theorem mv_pop {o : Expr} {m : PlM} {apos : Pos} (ho : PE X o (rdK X.K T F m)) (hbase : attributeBase o "pop" X.env (eval o X.env) = eval o X.env := by rfl) (hline : (apos.endLine == pos.line) = true := by rfl) : PE X (.Call (.Attribute o "pop" apos) [] [] pos) (rdV X.K T F W (v_pop m)) :=
  pe_weak (pe_bm0 PySem.F.plainAttrs_list PySem.F.slot_list_pop PySem.F.type_list_pop mt_pop ho hbase hline) fun σ H Q ⟨r, H0, R, w⟩ => by
    unfold v_pop at w
    cases em : m r with
    | none => rw [em] at w; exact w.elim
    | some ip =>
      obtain ⟨i, p⟩ := ip
      rw [em] at w
      dsimp only at w
      cases es : r[i]? with
      | none => rw [es] at w; exact w.elim
      | some s =>
        rw [es] at w
        dsimp only at w
        cases et : tree s with
        | none => rw [et] at w; exact w.elim
        | some t =>
          rw [et] at w
          dsimp only at w
          split at w
          · rename_i ts eg
            cases eo : ts.getLast? with
            | none => rw [eo] at w; exact w.elim
            | some o' =>
              rw [eo] at w
              refine ⟨r, H0, i, p, R, em, fun v0 v e0 hk => ?_⟩
              obtain ⟨fp, f⟩ := R.fps
              obtain ⟨v0', e0', tg⟩ := slotTree R f es et
              have z := e0.symm.trans e0'
              cases z
              obtain ⟨w1, l1, g1, rr1, k1, k2, k3, k4⟩ := tg.at eg
              have zz := hk.det k1
              subst zz
              have ets : ts = ts.dropLast ++ [o'] := by
                obtain ⟨ne, hh⟩ := List.getLast?_eq_some_iff.mp eo
                rw [hh]; simp
              cases k2 with
              | @lst a vs1 _ fp1 q1 n1 tr1 =>
                rw [ets] at tr1
                obtain ⟨vs0, y, g0, go, rfl, rfl, t0, ty⟩ := tr1.unsnoc
                refine ⟨.inl ⟨rfl, _, SqL.of q1⟩, a, vs0 ++ [y], y, rfl, rfl, q1, by simp, ?_⟩
                rw [List.dropLast_concat]
                have nd := f.nd i
                rw [k3] at nd
                have nd1 := List.nodup_append.mp nd
                have nd2 := List.nodup_append.mp nd1.1
                have nd3 := List.nodup_cons.mp nd2.2.1
                have nd4 := List.nodup_append.mp nd3.2
                have na : ∀ b, b ∈ l1 ++ rr1 → b ≠ a := fun b m z => by
                  subst z
                  rcases List.mem_append.mp m with m | m
                  · exact nd2.2.2 b m b List.mem_cons_self rfl
                  · exact nd1.2.2 b (by simp) b m rfl
                have na0 : ∀ b ∈ g0, b ≠ a := fun b m z => nd3.1 (by subst z; exact List.mem_append_left _ m)
                have nao : ∀ b ∈ go, b ≠ a := fun b m z => nd3.1 (by subst z; exact List.mem_append_right _ m)
                have tnew := k4 (upd H a (.lst vs0)) (.lst ts.dropLast) (a :: g0) (fun b m => upd_ne (na b m)) (.lst upd_same n1 (t0.mono (Sub.refl _) fun b m o e n => ⟨by rw [upd_ne (na0 b m)]; exact e, n⟩))
                have hi : i < r.length := (List.getElem?_eq_some_iff.mp es).1
                have ha : a ∈ fp i := by rw [k3]; simp
                have F2 := R.split f (v := y) hi e0 (SlotOk.ofTree rfl tnew) (SlotOk.ofTree rfl (ty.mono (H' := upd H a (.lst vs0)) (Sub.refl _) fun b m o e n => ⟨by rw [upd_ne (nao b m)]; exact e, n⟩))
                  (fun b m => by
                    rw [k3]
                    simp only [List.mem_append, List.mem_cons] at m ⊢
                    rcases m with (m | m | m) | m
                    · exact .inl (.inl m)
                    · exact .inl (.inr (.inl m))
                    · exact .inl (.inr (.inr (.inl m)))
                    · exact .inr m)
                  (fun b m => by rw [k3]; simp [m])
                  (by
                    refine List.nodup_append.mpr ⟨List.nodup_append.mpr ⟨nd2.1, List.nodup_cons.mpr ⟨fun m => nd3.1 (List.mem_append_left _ m), nd4.1⟩, fun b m c m2 => ?_⟩, nd1.2.1, fun b m c m2 => ?_⟩
                    · refine nd2.2.2 b m c ?_
                      simp only [List.mem_cons, List.mem_append] at m2 ⊢
                      rcases m2 with m2 | m2
                      · exact .inl m2
                      · exact .inr (.inl m2)
                    · refine nd1.2.2 b ?_ c m2
                      simp only [List.mem_cons, List.mem_append] at m ⊢
                      rcases m with m | m | m
                      · exact .inl m
                      · exact .inr (.inl m)
                      · exact .inr (.inr (.inl m)))
                  nd4.2.1
                  (fun b m m2 => by
                    simp only [List.mem_append, List.mem_cons] at m
                    rcases m with (m | m | m) | m
                    · exact nd2.2.2 b m b (by simp [m2]) rfl
                    · exact nao b m2 m
                    · exact nd4.2.2 b m b m2 rfl
                    · exact nd1.2.2 b (by simp [m2]) b m rfl)
                  (fun b m => upd_ne fun z => m (by rw [z]; exact ha))
                have R2 := R.write f ha (o := .lst vs0) (by simp [R.len]) F2 fun q hq => by rw [List.getElem?_append_left (R.pinLt q hq)]; exact R.pins q hq
                exact w y _ H0 R2 (Sub.refl _)
          · exact w.elim
/-- what stands at a place, handed on: the rest of the slot is forgotten -/
def v_at (m : PlM) : EM Slot := fun r => match m r with
  | some (i, p) => (match r[i]? with
    | some s => (match tree s with
      | some t => (match O.get t p with
        | some t' => .ok (norm t') (r.set i .un)
        | none => .bad)
      | none => .bad)
    | none => .bad)
  | none => .bad
theorem mv_at {e : Expr} {m : PlM} (he : PE X e (rdK K T F m)) : PE X e (rdV K T F W (v_at m)) := pe_weak he fun σ H Q ⟨r, H0, R, w⟩ => by
  unfold v_at at w
  cases em : m r with
  | none => rw [em] at w; exact w.elim
  | some ip =>
    obtain ⟨i, p⟩ := ip
    rw [em] at w
    dsimp only at w
    cases es : r[i]? with
    | none => rw [es] at w; exact w.elim
    | some s =>
      rw [es] at w
      dsimp only at w
      cases et : tree s with
      | none => rw [et] at w; exact w.elim
      | some t =>
        rw [et] at w
        dsimp only at w
        cases eg : O.get t p with
        | none => rw [eg] at w; exact w.elim
        | some t' =>
          rw [eg] at w
          refine ⟨r, H0, i, p, R, em, fun v0 v e0 hk => ?_⟩
          obtain ⟨fp, f⟩ := R.fps
          obtain ⟨v0', e0', tg⟩ := slotTree R f es et
          have z := e0.symm.trans e0'
          cases z
          obtain ⟨w1, l1, g1, rr1, k1, k2, k3, k4⟩ := tg.at eg
          have zz := hk.det k1
          subst zz
          have hi : i < r.length := (List.getElem?_eq_some_iff.mp es).1
          have nd := f.nd i
          rw [k3] at nd
          have F2 := R.split f (v := v) (H' := H) (s1 := .un) (g1 := []) hi e0 ⟨rfl, trivial⟩ (SlotOk.ofTree rfl k2) (fun b m => by cases m) (fun b m => by rw [k3]; simp [m]) List.nodup_nil (List.nodup_append.mp (List.nodup_append.mp nd).1).2.1 (fun b m => by cases m) fun b _ => rfl
          exact w v H H0 (R.refp (by simp [R.len]) F2 fun q hq => by rw [List.getElem?_append_left (R.pinLt q hq)]; exact R.pins q hq) (Sub.refl _)
end
end Ml
set_option Elab.async false
set_option linter.all false
set_option maxRecDepth 100000
set_option maxHeartbeats 4000000
/-! Ml14: values side by side, tuples and lists of them; borrowing; isinstance. -/
namespace Ml
open PySem L2
def toOs : List Slot → Option (List O)
  | [] => some []
  | s :: ss => match toO s, toOs ss with
    | some t, some ts => some (t :: ts)
    | _, _ => none
def cat (fp : Nat → List Addr) : Nat → Nat → List Addr
  | _, 0 => []
  | k, n + 1 => fp k ++ cat fp (k + 1) n
theorem cat_mem {fp : Nat → List Addr} {a : Addr} : ∀ {n k : Nat}, a ∈ cat fp k n ↔ ∃ i, i < n ∧ a ∈ fp (k + i)
  | 0, k => by simp [cat]
  | n + 1, k => by
    unfold cat
    rw [List.mem_append, cat_mem]
    constructor
    · rintro (h | ⟨i, hi, h⟩)
      · exact ⟨0, by omega, h⟩
      · exact ⟨i + 1, by omega, by rw [show k + (i + 1) = k + 1 + i by omega]; exact h⟩
    · rintro ⟨i, hi, h⟩
      cases i with
      | zero => exact .inl h
      | succ i => exact .inr ⟨i, by omega, by rw [show k + 1 + i = k + (i + 1) by omega]; exact h⟩
theorem cat_nodup {fp : Nat → List Addr} (nd : ∀ i, (fp i).Nodup) (dj : ∀ (i j : Nat) (a : Addr), a ∈ fp i → a ∈ fp j → i = j) : ∀ {n k : Nat}, (cat fp k n).Nodup
  | 0, k => List.nodup_nil
  | n + 1, k => by
    unfold cat
    refine List.nodup_append.mpr ⟨nd k, cat_nodup nd dj, fun a m b m2 z => ?_⟩
    subst z
    obtain ⟨i, _, h⟩ := cat_mem.mp m2
    have := dj _ _ a m h
    omega
section
variable {K : PySem.W.Frag} {T : Tab} {F : Fc} {W : WX} {X : Cx} {pos pos2 : Pos} {H H0 H' H0' : Hp} {σ σ' : L2.St} {r r' : Rho}
theorem gatherT {fp : Nat → List Addr} : ∀ {ss : List Slot} {vs : List V} {k : Nat} {os : List O}, vs.length = ss.length → (∀ (i : Nat) (s : Slot), ss[i]? = some s → SlotOk K T F H H0 (vs[i]?.map some) s (fp (k + i))) → toOs ss = some os → TreesOk K T H H0 vs os (cat fp k ss.length)
  | [], vs, k, os, hl, _, e => by
    cases e
    cases vs with
    | nil => exact .nil
    | cons _ _ => simp at hl
  | s :: ss, vs, k, os, hl, h, e => by
    cases vs with
    | nil => simp at hl
    | cons v vs =>
      unfold toOs at e
      cases e1 : toO s with
      | none => rw [e1] at e; cases e
      | some t =>
        cases e2 : toOs ss with
        | none => rw [e1, e2] at e; cases e
        | some ts =>
          rw [e1, e2] at e
          cases e
          obtain ⟨v', ev, ht⟩ := (h 0 s rfl).toTree e1
          cases ev
          refine .cons ht (gatherT (by simpa using hl) (fun i s e => ?_) e2)
          have q := h (i + 1) s (by simpa using e)
          rw [show k + 1 + i = k + (i + 1) by omega]
          simpa using q
/-- a new object of the values behind the slots -/
theorem Rel.gather {vs : List V} {ss : List Slot} {os : List O} {p : Addr} {o : HO} {t : O} (R : Rel K T F (σ ++ vs.map some) H H0 (r ++ ss)) (hl : σ.length = r.length) (pn : ∀ q ∈ F.R, σ[q.1]? = some (some (.ref q.2))) (hv : vs.length = ss.length) (eo : toOs ss = some os) (hp : H p = none) (et : ∀ d, t ≠ .fz d)
    (ht : ∀ H' g, H' p = some o → H0 p = none → TreesOk K T H' H0 vs os g → TreeOk K T H' H0 (.ref p) t (p :: g)) : Rel K T F (σ ++ [some (.ref p)]) (upd H p o) H0 (r ++ [norm t]) := by
  have R1 : Rel K T F (σ ++ vs.map some) (upd H p o) H0 (r ++ ss) := R.made hp
  obtain ⟨fp, f0⟩ := R.fps
  have np : ∀ (i : Nat) (a : Addr), a ∈ fp i → a ≠ p := fun i a m z => by
    subst z
    obtain ⟨⟨u, e⟩, _⟩ := f0.there m
    rw [hp] at e; cases e
  have f : FpOk K T F (σ ++ vs.map some) (upd H p o) H0 (r ++ ss) fp := ⟨fun i s e => (f0.slot i s e).mono (Sub.refl _) fun a m u e n => ⟨by rw [upd_ne (np i a m)]; exact e, n⟩, f0.out, f0.nd, f0.dj, f0.mine⟩
  have tr := gatherT (K := K) (T := T) (F := F) (H := upd H p o) (H0 := H0) (fp := fp) (k := r.length) hv (fun i s e => by
    have q := f.slot (r.length + i) s (by rw [List.getElem?_append_right (Nat.le_add_right _ _), Nat.add_sub_cancel_left]; exact e)
    rw [List.getElem?_append_right (by rw [hl]; exact Nat.le_add_right _ _), hl, Nat.add_sub_cancel_left, List.getElem?_map] at q
    exact q) eo
  have tt := ht (upd H p o) _ upd_same (R.sub.gone hp) tr
  refine R1.refp (fp := fun j => if j < r.length then fp j else if j = r.length then p :: cat fp r.length ss.length else []) (by simp [hl]) ⟨fun j s e => ?_, fun j e => ?_, fun j => ?_, fun j k a m1 m2 => ?_, fun j a m => ?_⟩ fun q hq => ?_
  · rcases lastCases (n := 0) e with ⟨rfl, rfl⟩ | ⟨h, e'⟩
    · rw [← hl, ixLast]
      simp only [hl, if_true, if_neg (Nat.lt_irrefl r.length)]
      exact SlotOk.ofTree rfl tt
    · rw [List.getElem?_append_left (by rw [hl]; exact h)]
      simp only [if_pos h]
      have q := f.slot j s (by rw [List.getElem?_append_left h]; exact e')
      rw [List.getElem?_append_left (by rw [hl]; exact h)] at q
      exact q
  · have l : (r ++ [norm t]).length ≤ j := List.getElem?_eq_none_iff.mp e
    have l : r.length + 1 ≤ j := by simpa using l
    simp only [if_neg (show ¬ j < r.length by omega), if_neg (show j ≠ r.length by omega)]
  · try dsimp only
    split
    · exact f.nd j
    · split
      · refine List.nodup_cons.mpr ⟨fun m => ?_, cat_nodup f.nd f.dj⟩
        obtain ⟨i, _, h⟩ := cat_mem.mp m
        exact np _ _ h rfl
      · exact List.nodup_nil
  · have up : ∀ j, a ∈ (if j < r.length then fp j else if j = r.length then p :: cat fp r.length ss.length else []) → (j < r.length ∧ a ∈ fp j) ∨ (j = r.length ∧ (a = p ∨ ∃ i, i < ss.length ∧ a ∈ fp (r.length + i))) := fun j m => by
      split at m
      · rename_i h; exact .inl ⟨h, m⟩
      · split at m
        · rename_i h
          rcases List.mem_cons.mp m with z | m
          · exact .inr ⟨h, .inl z⟩
          · exact .inr ⟨h, .inr (cat_mem.mp m)⟩
        · cases m
    rcases up j m1 with ⟨a1, b1⟩ | ⟨a1, b1⟩
    · rcases up k m2 with ⟨c1, d1⟩ | ⟨c1, d1⟩
      · exact f.dj j k a b1 d1
      · rcases d1 with d1 | ⟨i, _, d1⟩
        · exact absurd d1 (np j a b1)
        · have := f.dj _ _ a b1 d1; omega
    · rcases up k m2 with ⟨c1, d1⟩ | ⟨c1, d1⟩
      · rcases b1 with b1 | ⟨i, _, b1⟩
        · exact absurd b1 (np k a d1)
        · have := f.dj _ _ a b1 d1; omega
      · rw [a1, c1]
  · try dsimp only at m
    split at m
    · exact f.mine j a m
    · split at m
      · rcases List.mem_cons.mp m with z | m
        · subst z; exact .inl (R.freshE hp)
        · obtain ⟨i, _, h⟩ := cat_mem.mp m
          exact f.mine _ a h
      · cases m
  · have q1 := pn q hq
    rw [List.getElem?_append_left (List.getElem?_eq_some_iff.mp q1).1]
    exact q1
/-- values, one behind the other -/
def rdVs (K : PySem.W.Frag) (T : Tab) (F : Fc) (W : WX) (m : EM (List Slot)) : TA := fun σ H Q => ∃ r H0, Rel K T F σ H H0 r ∧ WG K T F W (m r) σ H0 fun ss r' => ∀ vs H' H0', Rel K T F (σ ++ vs.map some) H' H0' (r' ++ ss) → σ.length = r'.length → vs.length = ss.length → Sub H0 H0' → Q vs H'
def vs_nil : EM (List Slot) := fun r => .ok [] r
def vs_cons (mv : EM Slot) (ms : EM (List Slot)) : EM (List Slot) := fun r => (mv r).bind fun s r1 => (ms r1).bind fun ss r2 => .ok (s :: ss) r2
theorem mvs_nil : PA X [] (rdVs K T F W vs_nil) := pa_weak pa_nil fun σ H Q ⟨r, H0, R, w⟩ => w [] H H0 (by simpa using R) R.len rfl (Sub.refl _)
/-- the value behind comes to the front -/
theorem Rel.front {v : Option V} {us : List (Option V)} {s : Slot} {ss : List Slot} (R : Rel K T F ((σ ++ us) ++ [v]) H H0 ((r ++ ss) ++ [s])) (hl : σ.length = r.length) (hu : us.length = ss.length) (pn : ∀ q ∈ F.R, σ[q.1]? = some (some (.ref q.2))) : Rel K T F (σ ++ v :: us) H H0 (r ++ s :: ss) := by
  refine R.pick (fun j => if j < r.length then some j else if j = r.length then some (r.length + ss.length) else if j ≤ r.length + ss.length then some (j - 1) else none) (by simp [hl, hu]) (fun j x e => .inr ?_) (fun j k i h1 h2 => ?_) fun q hq => ?_
  · by_cases hj : j < r.length
    · refine ⟨j, if_pos hj, ?_, ?_⟩
      · rw [List.getElem?_append_left hj] at e
        rw [List.append_assoc, List.getElem?_append_left hj]; exact e
      · rw [List.getElem?_append_left (by rw [hl]; exact hj), List.append_assoc, List.getElem?_append_left (by rw [hl]; exact hj)]
    · by_cases z : j = r.length
      · subst z
        rw [List.getElem?_append_right (Nat.le_refl _), Nat.sub_self] at e
        refine ⟨_, by rw [if_neg hj, if_pos rfl], ?_, ?_⟩
        · rw [List.getElem?_append_right (by simp), List.length_append, Nat.sub_self]; simpa using e
        · rw [List.getElem?_append_right (by rw [hl]; exact Nat.le_refl _), hl, Nat.sub_self, List.getElem?_append_right (by simp [hl, hu]), List.length_append, hl, hu, Nat.sub_self]; rfl
      · have hj2 : r.length < j := by omega
        have hjb : j ≤ r.length + ss.length := by
          have hjl : j < (r ++ s :: ss).length := (List.getElem?_eq_some_iff.mp e).1
          have hjl : j < r.length + (ss.length + 1) := by simpa using hjl
          omega
        refine ⟨j - 1, by rw [if_neg hj, if_neg z, if_pos hjb], ?_, ?_⟩
        · rw [List.getElem?_append_right (by omega)] at e
          obtain ⟨d, hd⟩ : ∃ d, j - r.length = d + 1 := ⟨j - r.length - 1, by omega⟩
          rw [hd] at e
          have e : ss[d]? = some x := by simpa using e
          have hdl : d < ss.length := (List.getElem?_eq_some_iff.mp e).1
          rw [List.getElem?_append_left (by rw [List.length_append]; omega), List.getElem?_append_right (by omega), show j - 1 - r.length = d by omega]
          exact e
        · have hjl : j < (r ++ s :: ss).length := (List.getElem?_eq_some_iff.mp e).1
          have hjl : j < r.length + (ss.length + 1) := by simpa using hjl
          obtain ⟨d, hd⟩ : ∃ d, j - r.length = d + 1 := ⟨j - r.length - 1, by omega⟩
          rw [List.getElem?_append_right (by omega), hl, hd, List.getElem?_append_left (by rw [List.length_append]; omega), List.getElem?_append_right (by omega), hl, show j - 1 - r.length = d by omega]
          rfl
  · try dsimp only at h1 h2
    by_cases a1 : j < r.length
    · rw [if_pos a1] at h1
      by_cases a2 : k < r.length
      · rw [if_pos a2] at h2
        have := Option.some.inj h1; have := Option.some.inj h2; omega
      · rw [if_neg a2] at h2
        by_cases b2 : k = r.length
        · rw [if_pos b2] at h2
          have := Option.some.inj h1; have := Option.some.inj h2; omega
        · rw [if_neg b2] at h2
          by_cases c2 : k ≤ r.length + ss.length
          · rw [if_pos c2] at h2
            have := Option.some.inj h1; have := Option.some.inj h2; omega
          · rw [if_neg c2] at h2; cases h2
    · rw [if_neg a1] at h1
      by_cases b1 : j = r.length
      · rw [if_pos b1] at h1
        by_cases a2 : k < r.length
        · rw [if_pos a2] at h2
          have := Option.some.inj h1; have := Option.some.inj h2; omega
        · rw [if_neg a2] at h2
          by_cases b2 : k = r.length
          · omega
          · rw [if_neg b2] at h2
            by_cases c2 : k ≤ r.length + ss.length
            · rw [if_pos c2] at h2
              have := Option.some.inj h1; have := Option.some.inj h2; omega
            · rw [if_neg c2] at h2; cases h2
      · rw [if_neg b1] at h1
        by_cases c1 : j ≤ r.length + ss.length
        · rw [if_pos c1] at h1
          by_cases a2 : k < r.length
          · rw [if_pos a2] at h2
            have := Option.some.inj h1; have := Option.some.inj h2; omega
          · rw [if_neg a2] at h2
            by_cases b2 : k = r.length
            · rw [if_pos b2] at h2
              have := Option.some.inj h1; have := Option.some.inj h2; omega
            · rw [if_neg b2] at h2
              by_cases c2 : k ≤ r.length + ss.length
              · rw [if_pos c2] at h2
                have := Option.some.inj h1; have := Option.some.inj h2; omega
              · rw [if_neg c2] at h2; cases h2
        · rw [if_neg c1] at h1; cases h1
  · have q1 := pn q hq
    rw [List.getElem?_append_left (List.getElem?_eq_some_iff.mp q1).1]
    exact q1
theorem mvs_cons {e : Expr} {es : List Expr} {mv : EM Slot} {ms : EM (List Slot)} (h : PE X e (rdV K T F W mv)) (hs : ∀ F', F'.R = [] → PA X es (rdVs K T F' W ms)) (hst : starEach (e :: es) X.env = (false, eval e X.env) :: starEach es X.env := by rfl) : PA X (e :: es) (rdVs K T F W (vs_cons mv ms)) := by
  have pa : PA X es (fun σ H Q => ∃ F', F'.R = [] ∧ rdVs K T F' W ms σ H Q) := ⟨fun pos pins s σ H Q I ⟨F', hF, q⟩ => (hs F' hF).run pos pins s σ H Q I q⟩
  refine pa_weak (pa_cons h pa hst) fun σ H Q ⟨r, H0, R, w⟩ => ⟨r, H0, R, WG.bind w fun s r1 _ w1 v H1 H01 R1 s1 => ?_⟩
  have hl := R1.lenL
  obtain ⟨Fh, _, fR, RH, back, _⟩ := R1.hide hl
  refine ⟨Fh, fR, r1, H01, RH, ?_⟩
  have pn2 : ∀ (us : List V), ∀ q ∈ F.R, ((σ ++ us.map some) ++ [some v])[q.1]? = some (some (.ref q.2)) := fun us q hq => by
    have q1 := R.pins q hq
    have l := (List.getElem?_eq_some_iff.mp q1).1
    rw [List.getElem?_append_left (by rw [List.length_append]; omega), List.getElem?_append_left l]
    exact q1
  cases em : ms r1 with
  | ok ss r2 =>
    rw [em] at w1
    intro vs H2 H02 R2 hl2 hv2 s2
    obtain ⟨R3, s3⟩ := back (σ ++ vs.map some) H2 H02 (r2 ++ ss) R2 (pn2 vs)
    exact w1 (v :: vs) H2 H02 (by simpa using R3.front hl2 (by simpa using hv2) R.pins) hl2 (by simp [hv2]) (s1.trans s3)
  | exc c fs r2 =>
    rw [em] at w1
    intro dd H2 H02 R2 s2 p
    obtain ⟨R3, s3⟩ := back σ H2 H02 r2 R2 (by simpa using pn2 [])
    exact w1 dd H2 H02 (R3.drop R3.lenL R.pinLt) (s1.trans s3) p
  | bad => rw [em] at w1; exact w1.elim
/-- (a, b), [a, b] of such values -/
def v_tup (ms : EM (List Slot)) : EM Slot := fun r => (ms r).bind fun ss r => match toOs ss with
  | some os => if os.length ≤ SZ then .ok (.tr (.tup os)) r else .bad
  | none => .bad
def v_lst (ms : EM (List Slot)) : EM Slot := fun r => (ms r).bind fun ss r => match toOs ss with
  | some os => if os.length ≤ SZ then .ok (norm (.lst os)) r else .bad
  | none => .bad
theorem toOs_len : ∀ {ss : List Slot} {os : List O}, toOs ss = some os → os.length = ss.length
  | [], os, e => by cases e; rfl
  | s :: ss, os, e => by
    unfold toOs at e
    cases e1 : toO s with
    | none => rw [e1] at e; cases e
    | some t =>
      cases e2 : toOs ss with
      | none => rw [e1, e2] at e; cases e
      | some ts => rw [e1, e2] at e; cases e; simp [toOs_len e2]
theorem mv_tup {es : List Expr} {x1} {ms : EM (List Slot)} (h : PA X es (rdVs K T F W ms)) : PE X (.Tuple es x1 pos) (rdV K T F W (v_tup ms)) := pe_weak (pe_tup h) fun σ H Q ⟨r, H0, R, w⟩ => by
  refine ⟨r, H0, R, WG.bind w fun ss r1 _ w1 vs H' H0' R' hl hv s => ?_⟩
  cases eo : toOs ss with
  | none => rw [eo] at w1; exact w1.elim
  | some os =>
    rw [eo] at w1
    dsimp only at w1
    split at w1
    · rename_i z
      refine ⟨by rw [hv, ← toOs_len eo, ← SZ_eq]; exact z, fun p hp => ?_⟩
      exact w1 (.ref p) _ H0' (R'.gather (t := .tup os) hl R.pins hv eo hp (fun d z => by cases z) fun H' g h1 h2 h3 => .tup h1 h2 h3) s
    · exact w1.elim
theorem mv_lst {es : List Expr} {ms : EM (List Slot)} (h : PA X es (rdVs K T F W ms)) : PE X (.List es pos) (rdV K T F W (v_lst ms)) := pe_weak (pe_lst h) fun σ H Q ⟨r, H0, R, w⟩ => by
  refine ⟨r, H0, R, WG.bind w fun ss r1 _ w1 vs H' H0' R' hl hv s => ?_⟩
  cases eo : toOs ss with
  | none => rw [eo] at w1; exact w1.elim
  | some os =>
    rw [eo] at w1
    dsimp only at w1
    split at w1
    · rename_i z
      refine ⟨by rw [hv, ← toOs_len eo, ← SZ_eq]; exact z, fun p hp => ?_⟩
      exact w1 (.ref p) _ H0' (R'.gather (t := .lst os) hl R.pins hv eo hp (fun d z => by cases z) fun H' g h1 h2 h3 => .lst h1 h2 h3) s
    · exact w1.elim
/-! ### borrowing: everything stands while one expression is read -/
def scal : D → Bool
  | .non => true
  | .bl _ => true
  | .int _ => true
  | .str _ => true
  | _ => false
theorem scal_rep {v : V} {d : D} (h : Rep K T H v d) (e : scal d = true) : Rep K T H' v d := by
  cases h with
  | non => exact .non
  | bl b => exact .bl b
  | int i => exact .int i
  | str s => exact .str s
  | _ => cases e
/-- all trees as data -/
def frAll (fl : Nat → Nat) : Rho → Option Rho
  | [] => some []
  | s :: r => match tree s with
    | some t => (match O.data fl t, frAll fl r with
      | some d, some r' => some (.fz d :: r')
      | _, _ => none)
    | none => (frAll fl r).map (s :: ·)
theorem frAll_get {fl : Nat → Nat} : ∀ {r r' : Rho}, frAll fl r = some r' → r'.length = r.length ∧ ∀ (i : Nat) (s' : Slot), r'[i]? = some s' → ∃ s, r[i]? = some s ∧ ((∃ t d, tree s = some t ∧ O.data fl t = some d ∧ s' = .fz d) ∨ (tree s = none ∧ s' = s))
  | [], r', h => by cases h; exact ⟨rfl, fun i s e => by simp at e⟩
  | s :: r, r', h => by
    unfold frAll at h
    cases et : tree s with
    | some t =>
      rw [et] at h
      cases ed : O.data fl t with
      | none => simp only [ed] at h; cases h
      | some d =>
        cases er : frAll fl r with
        | none => simp only [ed, er] at h; cases h
        | some r2 =>
          simp only [ed, er] at h
          cases h
          obtain ⟨h1, h2⟩ := frAll_get er
          refine ⟨by simp [h1], fun i s' e => ?_⟩
          cases i with
          | zero => simp at e; exact ⟨s, rfl, .inl ⟨t, d, et, ed, e.symm⟩⟩
          | succ i => simpa using h2 i s' (by simpa using e)
    | none =>
      rw [et] at h
      cases er : frAll fl r with
      | none => simp only [er] at h; cases h
      | some r2 =>
        simp only [er] at h
        cases h
        obtain ⟨h1, h2⟩ := frAll_get er
        refine ⟨by simp [h1], fun i s' e => ?_⟩
        cases i with
        | zero => simp at e; exact ⟨s, rfl, .inr ⟨et, e.symm⟩⟩
        | succ i => simpa using h2 i s' (by simpa using e)
theorem Rel.borrow {r0 : Rho} (R : Rel K T F σ H H0 r) (e : frAll (fun c => (T.flds c).length) r = some r0) : ∃ H0', Sub H0 H0' ∧ Rel K T F σ H H0' r0 ∧ ∀ H2 H02 r2, Rel K T F σ H2 H02 r2 → Sub H0' H02 → Rel K T F σ H2 H0 r := by
  obtain ⟨fp, f⟩ := R.fps
  obtain ⟨hl, hg⟩ := frAll_get e
  have dec : ∀ b, Decidable (∃ i, b ∈ fp i) := fun b => Classical.propDecidable _
  have key : ∃ H0' : Hp, (∀ i, ∀ b ∈ fp i, H0' b = H b) ∧ ∀ b, (∀ i, b ∉ fp i) → H0' b = H0 b :=
    ⟨fun b => @ite _ (∃ i, b ∈ fp i) (dec b) (H b) (H0 b), fun i b m => @if_pos _ (dec b) ⟨i, m⟩ _ _ _, fun b m => @if_neg _ (dec b) (fun ⟨i, z⟩ => m i z) _ _ _⟩
  obtain ⟨H0', k1, k2⟩ := key
  have cs : ∀ b, (∃ i, b ∈ fp i) ∨ ∀ i, b ∉ fp i := fun b => by
    by_cases h : ∃ i, b ∈ fp i
    · exact .inl h
    · exact .inr fun i z => h ⟨i, z⟩
  have s0 : Sub H0 H0' := fun b o e => by
    rcases cs b with ⟨i, m⟩ | m
    · rw [(f.there m).2] at e; cases e
    · rw [k2 b m]; exact e
  have s1 : Sub H0' H := fun b o e => by
    rcases cs b with ⟨i, m⟩ | m
    · rw [k1 i b m] at e; exact e
    · rw [k2 b m] at e; exact R.sub b o e
  refine ⟨H0', s0, ⟨by rw [hl]; exact R.len, s1, R.base.trans s0, R.keep, R.there, fun b h1 h2 => ?_, ⟨fun _ => [], fun i s' e' => ?_, fun _ _ => rfl, fun _ => List.nodup_nil, fun i j a m => (by cases m), fun i a m => (by cases m)⟩, R.pins⟩, fun H2 H02 r2 R2 s2 => ?_⟩
  · rcases cs b with ⟨i, m⟩ | m
    · exact f.mine i b m
    · rw [k2 b m] at h1; exact R.new b h1 h2
  · obtain ⟨s, es, h⟩ := hg i s' e'
    have q := f.slot i s es
    unfold SlotOk at q
    rcases h with ⟨t, d, et, ed, rfl⟩ | ⟨et, rfl⟩
    · rw [et] at q
      obtain ⟨v, ev, tt⟩ := q
      exact ⟨rfl, v, ev, tt.rep s0 (k1 i) ed⟩
    · rw [et] at q
      unfold SlotOk
      rw [et]
      exact ⟨rfl, q.2.mono s0⟩
  · have up : ∀ i, ∀ b ∈ fp i, H2 b = H b := fun i b m => by
      obtain ⟨⟨o, e⟩, _⟩ := f.there m
      rw [e]
      exact R2.sub b o (s2 b o ((k1 i b m).trans e))
    exact ⟨R.len, fun b o e => R2.sub b o (s2 b o (s0 b o e)), R.base, R2.keep, R2.there, R.new, ⟨fp, fun i s es => (f.slot i s es).mono (Sub.refl _) fun a m o e n => ⟨(up i a m).trans e, n⟩, f.out, f.nd, f.dj, f.mine⟩, R.pins⟩
def e_bor (fl : Nat → Nat) (m : EM D) : EM D := fun r => match frAll fl r with
  | some r0 => (match m r0 with
    | .ok d _ => if scal d = true then .ok d r else .bad
    | _ => .bad)
  | none => .bad
def t_bor (fl : Nat → Nat) (m : EM Bool) : EM Bool := fun r => match frAll fl r with
  | some r0 => (match m r0 with
    | .ok b _ => .ok b r
    | _ => .bad)
  | none => .bad
theorem me_bor {e : Expr} {m : EM D} (p : PE X e (rdE K T F W m)) : PE X e (rdE K T F W (e_bor (fun c => (T.flds c).length) m)) := pe_weak p fun σ H Q ⟨r, H0, R, w⟩ => by
  unfold e_bor at w
  cases ef : frAll (fun c => (T.flds c).length) r with
  | none => rw [ef] at w; exact w.elim
  | some r0 =>
    rw [ef] at w
    dsimp only at w
    obtain ⟨H0', s0, R0, back⟩ := R.borrow ef
    refine ⟨r0, H0', R0, ?_⟩
    cases em : m r0 with
    | bad => rw [em] at w; exact w.elim
    | exc c fs r1 => rw [em] at w; exact w.elim
    | ok d r1 =>
      rw [em] at w
      intro v H2 H02 R2 s2 hv
      dsimp only at w
      split at w
      · rename_i z
        exact w v H2 H0 (back H2 H02 r1 R2 s2) (Sub.refl _) (scal_rep hv z)
      · exact w.elim
theorem mt_bor {e : Expr} {m : EM Bool} (p : PT X e (rdT K T F W m)) : PT X e (rdT K T F W (t_bor (fun c => (T.flds c).length) m)) := pt_weak p fun σ H Q ⟨r, H0, R, w⟩ => by
  unfold t_bor at w
  cases ef : frAll (fun c => (T.flds c).length) r with
  | none => rw [ef] at w; exact w.elim
  | some r0 =>
    rw [ef] at w
    dsimp only at w
    obtain ⟨H0', s0, R0, back⟩ := R.borrow ef
    refine ⟨r0, H0', R0, ?_⟩
    cases em : m r0 with
    | bad => rw [em] at w; exact w.elim
    | exc c fs r1 => rw [em] at w; exact w.elim
    | ok d r1 =>
      rw [em] at w
      intro H2 H02 R2 s2
      exact w H2 H0 (back H2 H02 r1 R2 s2) (Sub.refl _)
end
end Ml
set_option Elab.async false
set_option linter.all false
set_option maxRecDepth 100000
set_option maxHeartbeats 4000000
/-! Ml15: instances; isinstance; methods of lists by name. -/
namespace Ml
open PySem L2
section
variable {K : PySem.W.Frag} {T : Tab} {F : Fc} {W : WX} {X : Cx} {pos pos2 : Pos} {H H0 H' H0' : Hp} {σ σ' : L2.St} {r r' : Rho}
/-! ### methods of lists, on a name -/
theorem me_append {o e : Expr} {es : List Expr} {mas : EM (List AD)} {apos : Pos} (k : Nat) (ho : PE X o (tVar k)) (ha : PA X (e :: es) (rdA X.K T F W mas)) (hbase : attributeBase o "append" X.env (eval o X.env) = eval o X.env := by rfl)
    (hfew : ((backTo pos (starEach (e :: es) X.env)).all (fun x => !x.1) && (backToKw pos (keywordEach [] X.env)).all (fun x => x.1.isSome)
      && decide ((e :: es).length + ([] : List Keyword).length + (if ([] : List Keyword).isEmpty then 0 else 1) < 30)) = true := by rfl)
    (hline : (apos.endLine == pos.line) = true := by rfl) (hs : starEach (e :: es) X.env = (false, eval e X.env) :: starEach es X.env := by rfl) (hplain : (backTo pos (starEach es X.env)).any (·.1) = false := by rfl) :
    PE X (.Call (.Attribute o "append" apos) (e :: es) [] pos) (rdE X.K T F W (e_lm k f_append mas)) :=
  pe_weak (pe_bm PySem.F.plainAttrs_list slot_list_append type_list_append mt_append ho ha hbase hfew hline hs hplain) fun σ H Q h => rd_lm m_append h
def f_pop (ds : List D) : List D → Option (D × List D)
  | [] => match ds.getLast? with
    | some d => some (d, ds.dropLast)
    | none => none
  | _ => none
theorem Reps.unsnoc {vs : List V} {ds : List D} {d : D} (h : Reps K T H vs (ds ++ [d])) : ∃ ws w, vs = ws ++ [w] ∧ Reps K T H ws ds ∧ Rep K T H w d := by
  induction ds generalizing vs with
  | nil =>
    cases h with
    | cons a b => cases b; exact ⟨[], _, rfl, .nil, a⟩
  | cons e ds ih =>
    cases h with
    | cons a b => obtain ⟨ws, w, rfl, h1, h2⟩ := ih b; exact ⟨_ :: ws, w, rfl, .cons a h1, h2⟩
theorem m_pop : OpLm K T rPop f_pop := fun a vs ds xs es z ds' H H0 s h1 h2 h3 h4 e Q q => by
  cases h4 with
  | cons _ _ => cases e
  | nil =>
    unfold f_pop at e
    cases el : ds.getLast? with
    | none => simp only [el] at e; cases e
    | some d =>
      simp only [el] at e
      cases e
      have ed : ds = ds.dropLast ++ [z] := by
        obtain ⟨ne, hh⟩ := List.getLast?_eq_some_iff.mp el
        rw [hh]; simp
      rw [ed] at h3
      obtain ⟨ws, w, rfl, k1, k2⟩ := h3.unsnoc
      refine ⟨a, ws ++ [w], w, rfl, rfl, h1, by simp, ?_⟩
      rw [List.dropLast_concat]
      exact q w ws k2 k1
theorem me_pop {o : Expr} {apos : Pos} (k : Nat) (ho : PE X o (tVar k)) (hbase : attributeBase o "pop" X.env (eval o X.env) = eval o X.env := by rfl) (hline : (apos.endLine == pos.line) = true := by rfl) : PE X (.Call (.Attribute o "pop" apos) [] [] pos) (rdE X.K T F W (lmAt k f_pop [])) :=
  pe_weak (pe_bm0 PySem.F.plainAttrs_list PySem.F.slot_list_pop PySem.F.type_list_pop mt_pop ho hbase hline) fun σ H Q h => rd_lm0 m_pop h
/-- a list's append of a value of its own, at a place -/
def e_pmV (m : PlM) (mv : EM Slot) : EM D := fun r => match m r with
  | some (i, p) => (match r[i]? with
    | some s => (match tree s with
      | some t => (match O.get t p with
        | some (.lst ts) => (match mv (r.set i .un) with
          | .ok s2 r2 => (match toO s2 with
            | some o => if ts.length < SZ then .ok .non (r2.set i (norm (O.put t p (.lst (ts ++ [o]))))) else .bad
            | none => .bad)
          | _ => .bad)
        | _ => .bad)
      | none => .bad)
    | none => .bad)
  | none => .bad
/-! ### fields of data -/
def o_fld (c j : Nat) : D → Option D
  | .ins c' ds => if c' = c then ds[j]? else none
  | _ => none
theorem me_fld {e : Expr} {f : Str} {ma : EM AD} (c j : Nat) (he : PE X e (rdP X.K T F W ma)) (hc : Cls X.K (T.cls c)) (hn : NoAttr X.K (T.cls c) f) (hj : (T.flds c)[j]? = some f) (nd : (T.flds c).Nodup) (hb : attributeBase e f X.env (eval e X.env) = eval e X.env := by rfl) :
    PE X (.Attribute e f pos) (rdE X.K T F W (o1 (o_fld c j) ma)) := pe_weak (pe_fld he hb) fun σ H Q hOut => by
  have hm : OpM1 X.K T (fun x H1 Q => ∃ a C dx fs v, x = .ref a ∧ H1 a = some (.ins C dx fs) ∧ Cls X.K C ∧ NoAttr X.K C f ∧ fs.lookup f = some v ∧ Q v H1) (o_fld c j) := fun x dx z H H0 s hE e Q q => by
    unfold o_fld at e
    split at e
    · rename_i c' ds
      split at e
      · rename_i hcc
        subst hcc
        rcases hE with h | ⟨_, _, _, _, z, _⟩ | ⟨a, dd, c2, vs, es, rfl, z, h1, h2, h3⟩
        · cases h with
          | ins h1 h2 h3 =>
            obtain ⟨v, ev, rv⟩ := h3.get e
            exact ⟨_, _, _, _, v, rfl, s _ _ h1, hc, hn, zip_lookup2 nd hj ev, q _ _ _ (.sc rv)⟩
        · cases z
        · cases z
          obtain ⟨v, ev, rv⟩ := h3.get e
          exact ⟨a, _, _, _, v, rfl, h1, hc, hn, zip_lookup2 nd hj ev, q _ _ _ (.sc rv)⟩
      · cases e
    · cases e
  exact rd_o1 hm hOut
/-! ### self.f = value, self an object of the frame's own -/
def s_fld (c i j : Nat) (mv : EM Slot) : SM := fun r => (mv r).seq fun s r1 => match r1[i]? with
  | some si => (match tree si, toO s with
    | some (.obj c' ts), some o => if c' = c ∧ j = ts.length then .nx (r1.set i (norm (.obj c (ts ++ [o])))) else .bad
    | _, _ => .bad)
  | none => .bad
theorem putF_zip : ∀ {fs : List Str} {vs : List V} {f : Str} {v : V}, fs.Nodup → fs[vs.length]? = some f → putF f v (fs.zip vs) = fs.zip (vs ++ [v])
  | [], vs, _, _, _, h => by simp at h
  | g :: fs, [], f, v, _, h => by simp at h; subst h; simp [putF]
  | g :: fs, w :: vs, f, v, nd, h => by
    have h' : fs[vs.length]? = some f := by simpa using h
    have ne : g ≠ f := fun e => by
      subst e
      exact (List.nodup_cons.mp nd).1 (List.mem_of_getElem? h')
    rw [List.zip_cons_cons, List.cons_append, List.zip_cons_cons]
    unfold putF
    rw [if_neg ne, putF_zip (List.nodup_cons.mp nd).2 h']
theorem ms_fld {o value : Expr} {f : Str} {mv : EM Slot} {pos' : Pos} (c i j : Nat) (hv : PE X value (rdV X.K T F W mv)) (ho : PE X o (tVar i)) (hc : Cls X.K (T.cls c)) (hn : NoAttr X.K (T.cls c) f) (hj : (T.flds c)[j]? = some f) (nd : (T.flds c).Nodup) (hz : (T.flds c).length < 1000)
    (hs : swapsWith value (some (.Attribute o f pos')) pos.line X.env = pure false := by rfl) : PS X (.Assign [.Attribute o f pos'] value pos) (rdS X.K T F W (s_fld c i j mv)) := ps_weak (ps_fld ho hv hs) fun E σ H ⟨r, H0, R, w⟩ => by
  refine ⟨r, H0, R, WS.of w fun s r1 _ w1 y H1 H01 R1 s1 => ?_⟩
  cases es : r1[i]? with
  | none => rw [es] at w1; exact w1.elim
  | some si =>
    rw [es] at w1
    dsimp only at w1
    split at w1
    · rename_i c' ts o' et eo
      split at w1
      · rename_i hh
        obtain ⟨rfl, hjl⟩ := hh
        have hl := R1.lenL
        obtain ⟨fp, ff⟩ := R1.fps
        have hi : i < r1.length := (List.getElem?_eq_some_iff.mp es).1
        have qi := ff.slot i si (by rw [List.getElem?_append_left hi]; exact es)
        have ql := ff.slot r1.length s ixLast
        rw [← hl, ixLast, hl] at ql
        rw [List.getElem?_append_left (by rw [hl]; exact hi)] at qi
        unfold SlotOk at qi
        rw [et] at qi
        obtain ⟨v0, e0, ti⟩ := qi
        obtain ⟨v1, e1, tl⟩ := ql.toTree eo
        cases e1
        have ndi := ff.nd i
        have dj := ff.dj i r1.length
        have ndl := ff.nd r1.length
        have mi := fun a m => ff.mine i a m
        generalize hgi : fp i = gi at ti ndi
        cases ti with
        | @obj a dx _ vs _ g1 q1 q2 q3 q4 =>
          have hvl : vs.length = ts.length := q4.length
          have hfv : (T.flds c')[vs.length]? = some f := by rw [hvl, ← hjl]; exact hj
          have hlt : vs.length < (T.flds c').length := (List.getElem?_eq_some_iff.mp hfv).1
          refine ⟨_, e0, a, T.cls c', dx, _, rfl, q1, hc, hn, by rw [List.length_zip]; omega, ?_⟩
          rw [putF_zip nd hfv]
          have hai : a ∈ fp i := by rw [hgi]; exact List.mem_cons_self
          have nal : ∀ b ∈ fp r1.length, b ≠ a := fun b m z => by subst z; have := dj b hai m; omega
          have na1 : ∀ b ∈ g1, b ≠ a := fun b m z => by subst z; exact (List.nodup_cons.mp ndi).1 m
          have tnew : TreeOk X.K T (upd H1 a (.ins (T.cls c') dx ((T.flds c').zip (vs ++ [y])))) H01 (.ref a) (.obj c' (ts ++ [o'])) (a :: (g1 ++ (fp r1.length ++ []))) :=
            .obj upd_same (by rw [List.length_append]; exact hlt) q3 ((q4.mono (Sub.refl _) fun b m u e n => ⟨by rw [upd_ne (na1 b m)]; exact e, n⟩).append (.cons (tl.mono (Sub.refl _) fun b m u e n => ⟨by rw [upd_ne (nal b m)]; exact e, n⟩) .nil))
          rw [List.append_nil] at tnew
          have Rw := R1.write ff hai (o := .ins (T.cls c') dx ((T.flds c').zip (vs ++ [y]))) (σ' := σ) (r' := r1.set i (norm (.obj c' (ts ++ [o'])))) (fp' := fun k => if k = i then a :: (g1 ++ fp r1.length) else if k < r1.length then fp k else []) (by simpa using hl) ⟨fun k x e => ?_, fun k e => ?_, fun k => ?_, fun k m b m1 m2 => ?_, fun k b m => ?_⟩ R.pins
          · exact w1 _ _ H01 Rw s1
          · have hk : k < r1.length := by have := (List.getElem?_eq_some_iff.mp e).1; simpa using this
            by_cases z : k = i
            · subst z
              rw [List.getElem?_set_self hk] at e
              cases e
              simp only [if_true]
              rw [e0]
              exact SlotOk.ofTree rfl tnew
            · rw [List.getElem?_set_ne (Ne.symm z)] at e
              simp only [if_neg z, if_pos hk]
              have q := ff.slot k x (by rw [List.getElem?_append_left hk]; exact e)
              rw [List.getElem?_append_left (by rw [hl]; exact hk)] at q
              exact q.mono (Sub.refl _) fun b m u e n => ⟨by rw [upd_ne fun y => z (ff.dj k i a (by rw [← y]; exact m) hai)]; exact e, n⟩
          · have l : (r1.set i (norm (.obj c' (ts ++ [o'])))).length ≤ k := List.getElem?_eq_none_iff.mp e
            have l : r1.length ≤ k := by simpa using l
            simp only [if_neg (show k ≠ i by omega), if_neg (show ¬ k < r1.length by omega)]
          · by_cases z : k = i
            · simp only [if_pos z]
              refine List.nodup_cons.mpr ⟨fun m => ?_, List.nodup_append.mpr ⟨(List.nodup_cons.mp ndi).2, ndl, fun b m c m2 z => ?_⟩⟩
              · rcases List.mem_append.mp m with m | m
                · exact na1 a m rfl
                · exact nal a m rfl
              · subst z
                have := dj b (by rw [hgi]; exact List.mem_cons_of_mem _ m) m2
                omega
            · simp only [if_neg z]
              split
              · exact ff.nd k
              · exact List.nodup_nil
          · have up : ∀ k, b ∈ (if k = i then a :: (g1 ++ fp r1.length) else if k < r1.length then fp k else []) → (k = i ∧ (b ∈ fp i ∨ b ∈ fp r1.length)) ∨ (k ≠ i ∧ k < r1.length ∧ b ∈ fp k) := fun k m => by
              by_cases z : k = i
              · rw [if_pos z] at m
                refine .inl ⟨z, ?_⟩
                rcases List.mem_cons.mp m with y | m
                · subst y; exact .inl hai
                · rcases List.mem_append.mp m with m | m
                  · exact .inl (by rw [hgi]; exact List.mem_cons_of_mem _ m)
                  · exact .inr m
              · rw [if_neg z] at m
                split at m
                · rename_i h; exact .inr ⟨z, h, m⟩
                · cases m
            rcases up k m1 with ⟨a1, b1⟩ | ⟨a1, a2, b1⟩
            · rcases up m m2 with ⟨c1, d1⟩ | ⟨c1, c2, d1⟩
              · rw [a1, c1]
              · rcases b1 with b1 | b1
                · exact absurd (ff.dj m i b d1 b1) c1
                · have := ff.dj m r1.length b d1 b1; omega
            · rcases up m m2 with ⟨c1, d1⟩ | ⟨c1, c2, d1⟩
              · rcases d1 with d1 | d1
                · exact absurd (ff.dj k i b b1 d1) a1
                · have := ff.dj k r1.length b b1 d1; omega
              · exact ff.dj k m b b1 d1
          · by_cases z : k = i
            · simp only [if_pos z] at m
              rcases List.mem_cons.mp m with y | m
              · subst y; exact ff.mine i _ hai
              · rcases List.mem_append.mp m with m | m
                · exact ff.mine i b (by rw [hgi]; exact List.mem_cons_of_mem _ m)
                · exact ff.mine _ b m
            · simp only [if_neg z] at m
              split at m
              · exact ff.mine k b m
              · cases m
      · exact w1.elim
    · exact w1.elim
end
end Ml
set_option Elab.async false
set_option linter.all false
set_option maxRecDepth 100000
set_option maxHeartbeats 4000000
/-! Ml16: instances made, their methods called. -/
namespace L2
open PySem PySem.Spec PyProof.Rows
section
variable {X : Cx} {CX : CXT} {k : Nat} {f C : Addr} {fd : FuncData} {ps : List Str} {sp : Sp} {E : St → XK} {x m : Str} {p pos apos : Pos} {e o : Expr} {es : List Expr} {ta : TE} {t : TA}
/-- an instance is made; what __init__ lets out is wished for at the caller's slots -/
theorem run_mkS {pins : List (Addr × Obj)} {σ : St} {H : Hp} {s : Shared} {Q : VK} {us : List Value} {vs : List V} (M : Mk X.K C f) (Fn : FnOk X.prog X.w X.K X.mg X.base CX k f fd ps sp) (room : Room (k + 1) X.A) (hb : Binds X.K fd ps []) (pass : PassesAt CX X σ (E σ)) (I : Inv X pins σ H s) (rel : Vals vs us)
    (h : ∀ x dx, H x = none → H dx = none → dx ≠ x → sp (.ref x :: vs) (upd (upd H dx (.own x)) x (.ins C dx [])) (fun v H2 => v = .non ∧ Q (.ref x) H2) (E σ)) : wpAny (model X.prog X.w) X.A (call (.ref C) us) (EP X pins σ Q) X.xe s := by
  have asked := h (s.heap.objs.size + 1) s.heap.objs.size (I.hok.fresh (Nat.le_succ _)) (I.hok.fresh (Nat.le_refl _)) (Nat.ne_of_lt (Nat.lt_succ_self _))
  have made := Inv.made (C := C) I
  have rel2 : Vals (V.ref (s.heap.objs.size + 1) :: vs) (Value.ref (s.heap.objs.size + 1) :: us) := .cons rfl rel
  have len : (Value.ref (s.heap.objs.size + 1) :: us ++ []).length = ps.length := by
    have q := rel2.length
    rw [Fn.len _ _ _ _ asked] at q
    simpa using q.symm
  have bnd := hb _ (Value.ref (s.heap.objs.size + 1) :: us) made.kIn len
  rw [List.append_nil] at bnd
  refine wpAny_call (make_map (f := f) I.kIn M.makes M.init (beq_iff_eq.mp M.fn) (codeAny_mono (Fn.run _ X.stack _ _ ⟨Value.ref (s.heap.objs.size + 1) :: us, []⟩ _ _ _ (E σ) (room.make C us []) (made.env0.make C us []) bnd rel2 asked) fun res s' out => ?_))
  match res, out with
  | .error e, out => exact pass pins _ _ e s' made out
  | .ok (.ret u), out =>
    obtain ⟨v, H', I3, rv, ev, q3⟩ := made.after out
    subst ev
    exact ⟨rv, ⟨V.ref (s.heap.objs.size + 1), H', I3, rfl, q3⟩⟩
  | .ok .next, out => exact out.elim
  | .ok .brk, out => exact out.elim
  | .ok .cont, out => exact out.elim
def tMkS (C : Addr) (sp : Sp) (E : St → XK) (t : TA) : TE := fun σ H Q => t σ H fun vs H1 => ∀ x dx, H1 x = none → H1 dx = none → dx ≠ x → sp (.ref x :: vs) (upd (upd H1 dx (.own x)) x (.ins C dx [])) (fun v H2 => v = .non ∧ Q (.ref x) H2) (E σ)
theorem pe_mkS (M : Mk X.K C f) (Fn : FnOk X.prog X.w X.K X.mg X.base CX k f fd ps sp) (room : Room (k + 1) X.A) (hg : Gl X x) (hm : X.mg x = some (.ref C)) (hb : Binds X.K fd ps []) (pass : ∀ σ, PassesAt CX X σ (E σ))
    (ha : PA X (e :: es) t) (hdb : (x == ("__debug__" : Str)) = false := by decide) (he : starEach (e :: es) X.env = (false, eval e X.env) :: starEach es X.env := by rfl) (hpl : (backTo pos (starEach es X.env)).any (·.1) = false := by rfl) : PE X (.Call (.Name x p) (e :: es) [] pos) (tMkS C sp E t) :=
  ⟨fun pins s σ H Q I h => wpAny_Call_Name_kw (ld_glob I hg hm (PySem.W.callWith_K (h₀ := X.base) I.ok.mod.kin M.kp (thn (ha.run pos pins s σ H _ I h) fun us s1 ⟨vs, H1, I1, r, q⟩ => ⟨I1.kIn, run_mkS M Fn room hb (pass σ) I1 r q⟩) he hpl) hdb)⟩
theorem pe_mkS0 (M : Mk X.K C f) (Fn : FnOk X.prog X.w X.K X.mg X.base CX k f fd ps sp) (room : Room (k + 1) X.A) (hg : Gl X x) (hm : X.mg x = some (.ref C)) (hb : Binds X.K fd ps []) (pass : ∀ σ, PassesAt CX X σ (E σ))
    (hdb : (x == ("__debug__" : Str)) = false := by decide) : PE X (.Call (.Name x p) [] [] pos) (tMkS C sp E tNil) :=
  ⟨fun pins s σ H Q I h => wpAny_Call_Name_kw (ld_glob I hg hm (PySem.W.callWith_K0 I.kIn M.kp (run_mkS (us := []) M Fn room hb (pass σ) I .nil h)) hdb)⟩
def tMtS (C : Addr) (m : Str) (sp : Sp) (E : St → XK) (ta : TE) (t : TA) : TE := fun σ H Q => ta σ H fun x H1 => ∃ a dx fs, x = .ref a ∧ H1 a = some (.ins C dx fs) ∧ fs.lookup m = none ∧ t σ H1 fun vs H2 => sp (x :: vs) H2 Q (E σ)
theorem pe_mtS {pl : Sem Bool} (he : PE X o ta) (c : Cls X.K C) (hm : Meth X.K C m f) (Fn : FnOk X.prog X.w X.K X.mg X.base CX k f fd ps sp) (room : Room k X.A) (hb : Binds X.K fd ps []) (pass : ∀ σ, PassesAt CX X σ (E σ)) (ha : PA X (e :: es) t)
    (hst : starEach (e :: es) X.env = (false, eval e X.env) :: starEach es X.env := by rfl) (hpl : (backTo pos (starEach es X.env)).any (·.1) = false := by rfl)
    (ht : eval (.Call (.Attribute o m apos) (e :: es) [] pos) X.env = (do
      let ov ← eval o X.env
      standAt apos.atName
      let (fm, first) ← holding [ov] (getMethod ov m pl)
      callWith pos fm first (backTo pos (starEach (e :: es) X.env)) (backToKw pos (keywordEach [] X.env))) := by rfl) : PE X (.Call (.Attribute o m apos) (e :: es) [] pos) (tMtS C m sp E ta t) :=
  ⟨fun pins s σ H Q I h => PySem.W.methodCall_KW (pl := pl) (thn (he.run pins s σ H _ I h) fun u s1 ⟨x, H1, I1, rx, a, dx, fs, ex, ea, l, q⟩ => by
    subst ex
    obtain rfl : u = Value.ref a := rx
    exact getmeth_ok I1 ea c hm l (PySem.W.callWith_K (first := [.ref a]) (h₀ := X.base) I.ok.mod.kin hm.kp (thn (ha.run pos pins s1 σ H1 _ I1 q) fun us s2 ⟨vs, H2, I2, r, q2⟩ => ⟨I2.kIn, run_fnS (us := .ref a :: us) (vs := .ref a :: vs) Fn room hb (pass σ) I2 (.cons rfl r) q2⟩) hst hpl)) ht⟩
theorem pe_mtS0 {pl : Sem Bool} (he : PE X o ta) (c : Cls X.K C) (hm : Meth X.K C m f) (Fn : FnOk X.prog X.w X.K X.mg X.base CX k f fd ps sp) (room : Room k X.A) (hb : Binds X.K fd ps []) (pass : ∀ σ, PassesAt CX X σ (E σ))
    (ht : eval (.Call (.Attribute o m apos) [] [] pos) X.env = (do
      let ov ← eval o X.env
      standAt apos.atName
      let (fm, first) ← holding [ov] (getMethod ov m pl)
      callWith pos fm first (backTo pos (starEach [] X.env)) (backToKw pos (keywordEach [] X.env))) := by rfl) : PE X (.Call (.Attribute o m apos) [] [] pos) (tMtS C m sp E ta tNil) :=
  ⟨fun pins s σ H Q I h => PySem.W.methodCall_KW (pl := pl) (thn (he.run pins s σ H _ I h) fun u s1 ⟨x, H1, I1, rx, a, dx, fs, ex, ea, l, q⟩ => by
    subst ex
    obtain rfl : u = Value.ref a := rx
    exact getmeth_ok I1 ea c hm l (PySem.W.callWith_K0 (first := [.ref a]) I1.kIn hm.kp (run_fnS (us := [.ref a]) (vs := [.ref a]) Fn room hb (pass σ) I1 (.cons rfl .nil) q))) ht⟩
end
end L2
namespace Ml
open PySem L2
section
variable {K : PySem.W.Frag} {T : Tab} {F : Fc} {W : WX} {X : Cx} {pos pos2 : Pos} {H H0 H' H0' : Hp} {σ σ' : L2.St} {r r' : Rho}
/-- the class c under the name x: made by the mirror m -/
structure CalI (P : Program) (w : World) (K : PySem.W.Frag) (mg : Str → Option Value) (base : Heap) (T : Tab) (x : Str) (c k : Nat) (m : Rho → FO) : Prop where
  ex : ∃ f fd ps, FnOk P w K mg base (L2.CX P w) k f fd ps (spM K T m) ∧ Mk K (T.cls c) f ∧ mg x = some (.ref (T.cls c)) ∧ Binds K fd ps []
/-- its method mn -/
structure CalM (P : Program) (w : World) (K : PySem.W.Frag) (mg : Str → Option Value) (base : Heap) (T : Tab) (c : Nat) (mn : Str) (k : Nat) (m : Rho → FO) : Prop where
  ex : ∃ f fd ps, FnOk P w K mg base (L2.CX P w) k f fd ps (spM K T m) ∧ Meth K (T.cls c) mn f ∧ Binds K fd ps []
  cl : Cls K (T.cls c)
  nf : mn ∉ T.flds c
theorem ArgsOk.app {u : Option V} : ∀ {vs : List V} {as : List AD}, ArgsOk K T σ H0 vs as → ArgsOk K T (σ ++ [u]) H0 vs as
  | _, _, .nil => .nil
  | _, _, .cons (a := .d d) h t => .cons h t.app
  | _, _, .cons (a := .ow i) h t => .cons (a := .ow i) (by
      have h : σ[i]? = some (some _) := h
      show (σ ++ [u])[i]? = some (some _)
      rw [List.getElem?_append_left (List.getElem?_eq_some_iff.mp h).1]; exact h) t.app
def v_make (c : Nat) (m : Rho → FO) (ma : EM (List AD)) : EM Slot := fun r => (ma r).bind fun as r1 => match call m (.ow r1.length :: as) (r1 ++ [.obj c []]) with
  | .ok (.fz .non) r2 => (match r2[r1.length]? with
    | some s => .ok s (r2.take r1.length)
    | none => .bad)
  | .exc e fs r2 => .exc e fs (r2.take r1.length)
  | _ => .bad
theorem takeLast {α : Type} {l : List α} {n : Nat} {x : α} (hl : l.length = n + 1) (e : l[n]? = some x) : l = l.take n ++ [x] := by
  obtain ⟨h, e⟩ := List.getElem?_eq_some_iff.mp e
  have := List.take_append_getElem (l := l) (i := n) h
  rw [e] at this
  rw [this, List.take_of_length_le (by omega)]
theorem make_sp {c : Nat} {m : Rho → FO} {as : List AD} {vs : List V} {Q : VK} {k : Slot → Rho → Prop} (R : Rel K T F σ H H0 r) (ha : ArgsOk K T σ H0 vs as)
    (w : WG K T F W (match call m (.ow r.length :: as) (r ++ [.obj c []]) with
  | .ok (.fz .non) r2 => (match r2[r.length]? with
    | some s => .ok s (r2.take r.length)
    | none => .bad)
  | .exc e fs r2 => .exc e fs (r2.take r.length)
  | _ => .bad) σ H0 k) (hk : ∀ s r2, k s r2 → ∀ v H' H0', Rel K T F (σ ++ [some v]) H' H0' (r2 ++ [s]) → Sub H0 H0' → Q v H') :
    ∀ x dx, H x = none → H dx = none → dx ≠ x → spM K T m (.ref x :: vs) (upd (upd H dx (.own x)) x (.ins (T.cls c) dx [])) (fun v H2 => v = .non ∧ Q (.ref x) H2) (WE W σ) := by
  intro x dx hx hdx hne
  have R1 : Rel K T F σ (upd H dx (.own x)) H0 r := R.made hdx
  have hx1 : upd H dx (.own x) x = none := by rw [upd_ne (Ne.symm hne)]; exact hx
  obtain ⟨fp, f⟩ := R1.fps
  have np : ∀ (i : Nat) (a : Addr), a ∈ fp i → a ≠ x := fun i a m z => by
    subst z
    obtain ⟨⟨u, e⟩, _⟩ := f.there m
    rw [hx1] at e; cases e
  have R2 : Rel K T F σ (upd (upd H dx (.own x)) x (.ins (T.cls c) dx [])) H0 r := R1.made hx1
  have R3 := R2.push (s := .obj c []) (t := .obj c []) (g := [x]) (v := .ref x) rfl (.obj (vs := []) (by rw [upd_same, List.zip_nil_right]) (Nat.zero_le _) (R1.sub.gone hx1) .nil) (by simp) (fun a m => by cases List.mem_singleton.mp m; exact .inl (R1.freshE hx1))
    ⟨fp, ⟨fun i s e => (f.slot i s e).mono (Sub.refl _) fun a m o e n => ⟨by rw [upd_ne (np i a m)]; exact e, n⟩, f.out, f.nd, f.dj, f.mine⟩, fun i a m z => by cases List.mem_singleton.mp m; exact np i _ z rfl⟩ R.pinLt
  have hl := R.len
  refine sp_call (W := fun cls d σ2 H => W cls d σ H) (k := fun s r2 => s = .fz .non ∧ ∃ s', r2[r.length]? = some s' ∧ k s' (r2.take r.length)) R3 (.cons (a := .ow r.length) (by show (σ ++ [some (V.ref x)])[r.length]? = _; rw [← hl]; exact ixLast) ha.app) ?_ fun s r2 hk' v H2 H02 R4 s4 => ?_
  · cases ec : call m (.ow r.length :: as) (r ++ [.obj c []]) with
    | bad => rw [ec] at w; exact w.elim
    | exc e fs r2 =>
      rw [ec] at w
      intro dd H2 H02 R4 s4 p
      have l2 : r2.length = r.length + 1 := by rw [← R4.len]; simp [hl]
      obtain ⟨s', e'⟩ : ∃ s', r2[r.length]? = some s' := ⟨_, List.getElem?_eq_getElem (by omega)⟩
      rw [takeLast l2 e'] at R4
      exact w dd H2 H02 (R4.drop (by rw [hl, List.length_take]; omega) R.pinLt) s4 p
    | ok s r2 =>
      rw [ec] at w
      try dsimp only at w
      split at w
      · rename_i s0 r0 es
        cases es
        cases e2 : r2[r.length]? with
        | none => rw [e2] at w; exact w.elim
        | some s' => rw [e2] at w; exact ⟨rfl, s', e2, w⟩
      · rename_i es; cases es
      · exact w.elim
  · obtain ⟨rfl, s', e2, hk2⟩ := hk'
    obtain ⟨R5, rv⟩ := R4.popFz R3.pinLt
    have l2 : r2.length = r.length + 1 := by rw [← R5.len]; simp [hl]
    rw [takeLast l2 e2] at R5
    refine ⟨?_, hk s' _ hk2 (.ref x) H2 H02 R5 s4⟩
    cases rv; rfl
theorem mv_make0 {x : Str} {c k : Nat} {m : Rho → FO} {p : Pos} (G : CalI X.prog X.w X.K X.mg X.base T x c k m) (hr : Room (k + 1) X.A) (tk : Takes X W) (hg : Gl X x := by rfl) (hdb : (x == ("__debug__" : Str)) = false := by decide) : PE X (.Call (.Name x p) [] [] pos) (rdV X.K T F W (v_make c m a_nil)) := by
  obtain ⟨f, fd, ps, Fn, hM, hm, hb⟩ := G.ex
  refine pe_weak (pe_mkS0 (E := fun σ => WE W σ) hM Fn hr hg hm hb (fun σ => passAt tk σ) hdb) fun σ H Q ⟨r, H0, R, w⟩ => ?_
  exact make_sp R .nil w fun s r2 h => h
theorem mv_make {x : Str} {c k : Nat} {m : Rho → FO} {p : Pos} {e : Expr} {es : List Expr} {ma : EM (List AD)} (G : CalI X.prog X.w X.K X.mg X.base T x c k m) (hr : Room (k + 1) X.A) (tk : Takes X W) (ha : PA X (e :: es) (rdA X.K T F W ma)) (hg : Gl X x := by rfl) (hdb : (x == ("__debug__" : Str)) = false := by decide)
    (he : starEach (e :: es) X.env = (false, eval e X.env) :: starEach es X.env := by rfl) (hpl : (backTo pos (starEach es X.env)).any (·.1) = false := by rfl) : PE X (.Call (.Name x p) (e :: es) [] pos) (rdV X.K T F W (v_make c m ma)) := by
  obtain ⟨f, fd, ps, Fn, hM, hm, hb⟩ := G.ex
  refine pe_weak (pe_mkS (E := fun σ => WE W σ) hM Fn hr hg hm hb (fun σ => passAt tk σ) ha hdb he hpl) fun σ H Q ⟨r, H0, R, w⟩ => ?_
  refine ⟨r, H0, R, WG.bind w fun as r1 _ w1 vs H1 H01 R1 s1 hv => ?_⟩
  exact make_sp R1 hv (w1.mono s1) fun s r2 h v H' H0' R' s' => h v H' H0' R' (s1.trans s')
/-! ### methods -/
/-- x.m(..), x an object of the frame's own -/
def v_meth (c i : Nat) (m : Rho → FO) (ma : EM (List AD)) : EM Slot := fun r => match r[i]? with
  | some s => (match tree s with
    | some (.obj c' _) => if c' = c then (ma r).bind fun as r1 => call m (.ow i :: as) r1 else .bad
    | _ => .bad)
  | none => .bad
/-- e.m(..), e data -/
def v_methD (c : Nat) (m : Rho → FO) (md : EM D) (ma : EM (List AD)) : EM Slot := fun r => (md r).bind fun d r1 => match d with
  | .ins c' ds => if c' = c then (ma r1).bind fun as r2 => call m (.d (.ins c' ds) :: as) r2 else .bad
  | _ => .bad
def e_ofV (m : EM Slot) : EM D := fun r => (m r).bind fun s r => match s with
  | .fz d => .ok d r
  | _ => .bad
theorem me_ofV {e : Expr} {m : EM Slot} (p : PE X e (rdV K T F W m)) : PE X e (rdE K T F W (e_ofV m)) := pe_weak p fun σ H Q ⟨r, H0, R, w⟩ => by
  refine ⟨r, H0, R, WG.bind w fun s r1 _ w1 v H' H0' R' s' => ?_⟩
  cases s with
  | fz d => obtain ⟨R3, h3⟩ := R'.popFz R.pinLt; exact w1 v H' H0' R3 s' h3
  | own ds => exact w1.elim
  | obj c ds => exact w1.elim
  | un => exact w1.elim
  | exv c ds => exact w1.elim
  | tr t => exact w1.elim
theorem lookup_zip_none {fs : List Str} {vs : List V} {f : Str} (h : f ∉ fs) : (fs.zip vs).lookup f = none := by
  induction fs generalizing vs with
  | nil => rfl
  | cons g fs ih =>
    cases vs with
    | nil => rfl
    | cons v vs =>
      have ne : f ≠ g := fun e => h (by rw [e]; exact List.mem_cons_self)
      rw [List.zip_cons_cons, List.lookup_cons, beq_eq_false_iff_ne.mpr ne]
      exact ih fun m => h (List.mem_cons_of_mem _ m)
theorem rd_meth {c i : Nat} {mn : Str} {m : Rho → FO} {ma : EM (List AD)} (cl : Cls K (T.cls c)) (nf : mn ∉ T.flds c) {Q : VK} (h : rdV K T F W (v_meth c i m ma) σ H Q) : tMtS (T.cls c) mn (spM K T m) (fun σ => WE W σ) (tVar i) (rdA K T F W ma) σ H Q := by
  obtain ⟨r, H0, R, w⟩ := h
  unfold v_meth at w
  cases es : r[i]? with
  | none => rw [es] at w; exact w.elim
  | some s =>
    rw [es] at w
    dsimp only at w
    split at w
    · rename_i c' ts et
      split at w
      · rename_i hcc
        subst hcc
        obtain ⟨fp, f⟩ := R.fps
        obtain ⟨v0, e0, tt⟩ := slotTree R f es et
        generalize fp i = gi at tt
        cases tt with
        | @obj a dx _ vs _ g q1 q2 q3 q4 =>
          refine ⟨_, e0, a, dx, _, rfl, q1, lookup_zip_none nf, r, H0, R, WG.bind w fun as r1 _ w1 us H1 H01 R1 s1 hv => ?_⟩
          exact sp_call R1 (.cons (a := .ow i) e0 hv) (w1.mono s1) fun s r2 hk v H2 H02 R2 s2 => hk v H2 H02 R2 (s1.trans s2)
      · exact w.elim
    · exact w.elim
theorem mv_meth {mn : Str} {c i k : Nat} {m : Rho → FO} {o e : Expr} {es : List Expr} {apos : Pos} {ma : EM (List AD)} {pl : Sem Bool} (G : CalM X.prog X.w X.K X.mg X.base T c mn k m) (hr : Room k X.A) (tk : Takes X W) (ho : PE X o (tVar i)) (ha : PA X (e :: es) (rdA X.K T F W ma))
    (hst : starEach (e :: es) X.env = (false, eval e X.env) :: starEach es X.env := by rfl) (hpl : (backTo pos (starEach es X.env)).any (·.1) = false := by rfl)
    (ht : eval (.Call (.Attribute o mn apos) (e :: es) [] pos) X.env = (do
      let ov ← eval o X.env
      standAt apos.atName
      let (fm, first) ← holding [ov] (getMethod ov mn pl)
      callWith pos fm first (backTo pos (starEach (e :: es) X.env)) (backToKw pos (keywordEach [] X.env))) := by rfl) : PE X (.Call (.Attribute o mn apos) (e :: es) [] pos) (rdV X.K T F W (v_meth c i m ma)) := by
  obtain ⟨f, fd, ps, Fn, hm, hb⟩ := G.ex
  exact pe_weak (pe_mtS (E := fun σ => WE W σ) ho G.cl hm Fn hr hb (fun σ => passAt tk σ) ha hst hpl ht) fun σ H Q h => rd_meth G.cl G.nf h
theorem mv_meth0 {mn : Str} {c i k : Nat} {m : Rho → FO} {o : Expr} {apos : Pos} {pl : Sem Bool} (G : CalM X.prog X.w X.K X.mg X.base T c mn k m) (hr : Room k X.A) (tk : Takes X W) (ho : PE X o (tVar i))
    (ht : eval (.Call (.Attribute o mn apos) [] [] pos) X.env = (do
      let ov ← eval o X.env
      standAt apos.atName
      let (fm, first) ← holding [ov] (getMethod ov mn pl)
      callWith pos fm first (backTo pos (starEach [] X.env)) (backToKw pos (keywordEach [] X.env))) := by rfl) : PE X (.Call (.Attribute o mn apos) [] [] pos) (rdV X.K T F W (v_meth c i m a_nil)) := by
  obtain ⟨f, fd, ps, Fn, hm, hb⟩ := G.ex
  refine pe_weak (pe_mtS0 (E := fun σ => WE W σ) ho G.cl hm Fn hr hb (fun σ => passAt tk σ) ht) fun σ H Q h => ?_
  obtain ⟨x, e0, a, dx, fs, e1, e2, e3, r, H0, R, q⟩ := rd_meth G.cl G.nf h
  exact ⟨x, e0, a, dx, fs, e1, e2, e3, q [] H H0 R (Sub.refl _) .nil⟩
theorem rd_methD {c : Nat} {mn : Str} {m : Rho → FO} {md : EM D} {ma : EM (List AD)} (cl : Cls K (T.cls c)) (nf : mn ∉ T.flds c) {Q : VK} (h : rdV K T F W (v_methD c m md ma) σ H Q) : tMtS (T.cls c) mn (spM K T m) (fun σ => WE W σ) (rdE K T F W md) (rdA K T F W ma) σ H Q := by
  obtain ⟨r, H0, R, w⟩ := h
  refine ⟨r, H0, R, WG.bind w fun d r1 _ w1 v H1 H01 R1 s1 hv => ?_⟩
  split at w1
  · rename_i c' ds
    split at w1
    · rename_i hcc
      subst hcc
      have hv' := hv
      cases hv with
      | @ins a dx _ vs _ h1 h2 h3 =>
        refine ⟨a, dx, _, rfl, R1.sub _ _ h1, lookup_zip_none nf, r1, H01, R1, WG.bind (w1.mono s1) fun as r2 _ w2 us H2 H02 R2 s2 hv2 => ?_⟩
        exact sp_call R2 (.cons (a := .d _) (hv'.mono s2) hv2) (w2.mono s2) fun s r3 hk v H3 H03 R3 s3 => hk v H3 H03 R3 ((s1.trans s2).trans s3)
    · exact w1.elim
  · exact w1.elim
theorem mv_methD {mn : Str} {c k : Nat} {m : Rho → FO} {o e : Expr} {es : List Expr} {apos : Pos} {md : EM D} {ma : EM (List AD)} {pl : Sem Bool} (G : CalM X.prog X.w X.K X.mg X.base T c mn k m) (hr : Room k X.A) (tk : Takes X W) (ho : PE X o (rdE X.K T F W md)) (ha : PA X (e :: es) (rdA X.K T F W ma))
    (hst : starEach (e :: es) X.env = (false, eval e X.env) :: starEach es X.env := by rfl) (hpl : (backTo pos (starEach es X.env)).any (·.1) = false := by rfl)
    (ht : eval (.Call (.Attribute o mn apos) (e :: es) [] pos) X.env = (do
      let ov ← eval o X.env
      standAt apos.atName
      let (fm, first) ← holding [ov] (getMethod ov mn pl)
      callWith pos fm first (backTo pos (starEach (e :: es) X.env)) (backToKw pos (keywordEach [] X.env))) := by rfl) : PE X (.Call (.Attribute o mn apos) (e :: es) [] pos) (rdV X.K T F W (v_methD c m md ma)) := by
  obtain ⟨f, fd, ps, Fn, hm, hb⟩ := G.ex
  exact pe_weak (pe_mtS (E := fun σ => WE W σ) ho G.cl hm Fn hr hb (fun σ => passAt tk σ) ha hst hpl ht) fun σ H Q h => rd_methD G.cl G.nf h
theorem mv_methD0 {mn : Str} {c k : Nat} {m : Rho → FO} {o : Expr} {apos : Pos} {md : EM D} {pl : Sem Bool} (G : CalM X.prog X.w X.K X.mg X.base T c mn k m) (hr : Room k X.A) (tk : Takes X W) (ho : PE X o (rdE X.K T F W md))
    (ht : eval (.Call (.Attribute o mn apos) [] [] pos) X.env = (do
      let ov ← eval o X.env
      standAt apos.atName
      let (fm, first) ← holding [ov] (getMethod ov mn pl)
      callWith pos fm first (backTo pos (starEach [] X.env)) (backToKw pos (keywordEach [] X.env))) := by rfl) : PE X (.Call (.Attribute o mn apos) [] [] pos) (rdV X.K T F W (v_methD c m md a_nil)) := by
  obtain ⟨f, fd, ps, Fn, hm, hb⟩ := G.ex
  refine pe_weak (pe_mtS0 (E := fun σ => WE W σ) ho G.cl hm Fn hr hb (fun σ => passAt tk σ) ht) fun σ H Q h => ?_
  obtain ⟨r, H0, R, q⟩ := rd_methD G.cl G.nf h
  refine ⟨r, H0, R, q.imp (Sub.refl _) fun d r1 _ k v H' H0' R' s' hv => ?_⟩
  obtain ⟨a, dx, fs, e1, e2, e3, r2, H02, R2, q2⟩ := k v H' H0' R' s' hv
  exact ⟨a, dx, fs, e1, e2, e3, q2 [] H' H02 R2 (Sub.refl _) .nil⟩
end
end Ml
set_option Elab.async false
set_option linter.all false
set_option maxRecDepth 100000
set_option maxHeartbeats 4000000
/-! Ml17: is True, isinstance of data; the law's end. -/
namespace Ml
open PySem L2 PySem.Spec PyProof.Rows
section
variable {K : PySem.W.Frag} {T : Tab} {F : Fc} {W : WX} {X : Cx} {pos pos2 : Pos} {H H0 H' H0' : Hp} {σ σ' : L2.St} {r r' : Rho}
/-- x is b, b a truth value -/
def isBl (b : Bool) : D → Bool
  | .bl c => b == c
  | _ => false
def vBl (b : Bool) : V → Bool
  | .bl c => b == c
  | _ => false
def isTyV : V → Bool
  | .ty _ => true
  | _ => false
theorem op_isB : OpR X (compareOp .Is) (fun x y H Q => ∃ b, y = .bl b ∧ isTyV x = false ∧ Q (.bl (vBl b x)) H) := by
  intro pins s σ H x y v u Q I rx ry h
  obtain ⟨b, rfl, ht, q⟩ := h
  cases ry
  show wpAny _ _ ((isSame v (Value.bool b)) >>= fun z => pure (Value.bool z)) _ _ s
  have go : plainIs v (.bool b) = true → (v == Value.bool b) = vBl b x → wpAny (model X.prog X.w) X.A ((isSame v (Value.bool b)) >>= fun z => pure (Value.bool z)) (EP X pins σ Q) X.xe s := fun h1 h2 =>
    wpAny_bind (wpAny_isSame_plain h1 (by rw [h2]; exact wpAny_pure (fin_bl I q rfl)))
  cases x with
  | non => cases rx; exact go rfl rfl
  | bl c => cases rx; exact go rfl (by cases b <;> cases c <;> rfl)
  | int i => obtain ⟨t, rfl⟩ := rx; exact go rfl rfl
  | str x => obtain ⟨t, rfl⟩ := rx; exact go rfl rfl
  | byt x => obtain ⟨t, rfl⟩ := rx; exact go rfl rfl
  | flt x => obtain ⟨t, rfl⟩ := rx; exact go rfl rfl
  | ref a => cases rx; exact go rfl rfl
  | ty n => cases ht
def o_isB : D → D → Option D
  | x, .bl b => some (.bl (isBl b x))
  | _, _ => none
theorem m_isB : OpS2 K T (fun x y H Q => ∃ b, y = .bl b ∧ isTyV x = false ∧ Q (.bl (vBl b x)) H) o_isB := fun x y dx dy z H H0 s h1 h2 e Q q => by
  cases dy with
  | bl b =>
    cases e
    refine ⟨b, h2.bl', ?_, ?_⟩
    · rcases h1 with h | ⟨_, _, _, rfl, _⟩ | ⟨_, _, _, _, _, rfl, _⟩
      · cases h <;> rfl
      · rfl
      · rfl
    · have : vBl b x = isBl b dx := by
        rcases h1 with h | ⟨_, _, _, rfl, rfl, _⟩ | ⟨_, _, _, _, _, rfl, rfl, _⟩
        · cases h <;> rfl
        · rfl
        · rfl
      rw [this]
      exact q _ fun _ => .bl _
  | _ => cases e
/-! ### isinstance of data -/
def tn : D → Option String
  | .non => some "NoneType"
  | .bl _ => some "bool"
  | .int _ => some "int"
  | .str _ => some "str"
  | .tup _ => some "tuple"
  | .lst _ => some "list"
  | .ro true _ => some "tuple"
  | .ro false _ => some "list"
  | .ins _ _ => none
def tyB (n c : String) : Bool := n == c || (n == "bool" && c == "int")
def o_isi (c : String) (d : D) : Option D := (tn d).map fun n => .bl (tyB n c)
theorem ty_of {v : V} {d : D} {n : String} (s : Sub H0 H) (h : RepE K T H H0 v d) (e : tn d = some n) : TyX K H v (.type n) := by
  rcases h with h | ⟨a, vs, ds, rfl, rfl, h1, _⟩ | ⟨_, _, _, _, _, rfl, rfl, _⟩
  · cases h with
    | non => cases e; exact .base .non
    | bl b => cases e; exact .base (.bl b)
    | int i => cases e; exact .base (.int i)
    | str x => cases e; exact .base (.str x)
    | tup h1 _ => cases e; exact .base (.tup (s _ _ h1))
    | lst h1 _ => cases e; exact .base (.lst (s _ _ h1))
    | roT h1 _ =>
      cases e
      rcases s.sqT h1 with (h | ⟨o, h⟩) | ⟨o, its, m, h, hc, _⟩
      · exact .base (.tup h)
      · exact .fTuple h
      · exact .kTuple h hc
    | roL h1 _ =>
      cases e
      rcases s.sqL h1 with (h | ⟨o, h⟩) | ⟨o, its, m, h, hc, _⟩
      · exact .base (.lst h)
      · exact .base (.frz h)
      · exact .kList h hc
    | ins _ _ _ => cases e
  · cases e; exact .base (.lst h1)
  · cases e
theorem me_isi {a c : Expr} {p : Pos} {cn : String} {ma : EM AD} (ha : PE X a (rdP X.K T F W ma)) (hc : PE X c (tC (.ty cn))) (hm : X.mg "isinstance" = none) (hcn : ∀ n ∈ ["NoneType", "bool", "int", "str", "tuple", "list"], kitB n cn = some (tyB n cn)) (hg : Gl X "isinstance" := by rfl)
    (hs : starEach (a :: [c]) X.env = (false, eval a X.env) :: starEach [c] X.env := by rfl) (hs2 : starEach (c :: []) X.env = (false, eval c X.env) :: starEach [] X.env := by rfl) (hpl : (backTo pos (starEach [c] X.env)).any (·.1) = false := by rfl) :
    PE X (.Call (.Name "isinstance" p) [a, c] [] pos) (rdE X.K T F W (o1 (o_isi cn) ma)) := by
  have hmm : OpM1 X.K T (fun x H Q => rIsi X.K [x, .ty cn] H Q) (o_isi cn) := fun x dx z H H0 s h e Q q => by
    unfold o_isi at e
    cases en : tn dx with
    | none => rw [en] at e; cases e
    | some n =>
      rw [en] at e; cases e
      refine ⟨x, .ty cn, .type n, .type cn, tyB n cn, rfl, .ty cn, ty_of s h en, kit_ty (hcn n ?_), q _ _ _ (.sc (.bl _))⟩
      cases dx with
      | ro b ds => cases b <;> (cases en; decide)
      | ins _ _ => cases en
      | _ => cases en; decide
  exact pe_weak (pe_callB call_isi hg hm PyProof.Rows.boot_isinstance (pa_cons ha (pa_cons hc pa_nil hs2) hs) (by decide) (by decide) hs hpl) fun σ H Q h => rd_o1 hmm h
theorem pe_tyn {x : Str} {cn : String} {p : Pos} (hm : X.mg x = none) (hv : bootBuiltins x = some (.type cn)) (hg : Gl X x := by rfl) (hn : x ≠ "__name__" := by decide) (hd : (x == ("__debug__" : Str)) = false := by decide) : PE X (.Name x p) (tC (.ty cn)) := pe_bltn hg hm hv rfl hn hd
/-! ### the law's own promise -/
theorem law_sp {m : Rho → FO} {a : Addr} {ns : List Int} {outs : Rho} (hS : SqL K H a (ns.map V.int)) (e : m [.fz (.ro false (ns.map D.int))] = .ret (.fz (.bl true)) outs) : spM K T m [.ref a] H (fun v _ => v = .bl true) fun _ _ _ => False := by
  have rep : ∀ ns : List Int, Reps K T H (ns.map V.int) (ns.map D.int) := fun ns => by
    induction ns with
    | nil => exact .nil
    | cons n ns ih => exact .cons (.int n) ih
  refine ⟨H, [.fz (.ro false (ns.map D.int))], fun _ => False, ⟨rfl, Sub.refl _, Sub.refl _, fun b o e _ => e, fun b e => e, fun b h1 h2 => absurd h2 h1, ⟨fun _ => [], fun i s es => ?_, fun _ _ => rfl, fun _ => List.nodup_nil, fun i j a m => (by cases m), fun i a m => (by cases m)⟩, fun p hp => (by cases hp)⟩, ?_⟩
  · cases i with
    | zero => cases es; exact ⟨rfl, _, rfl, .roL hS (rep ns)⟩
    | succ i => simp at es
  · rw [e]
    intro v σ' H' H0' R' _ _
    obtain ⟨_, h⟩ := R'.popFz fun p hp => by cases hp
    cases h; rfl
end
end Ml
set_option Elab.async false
set_option linter.all false
set_option maxRecDepth 100000
set_option maxHeartbeats 4000000
/-! Ml18: lists joined as lists of the frame's own; any walk; values frozen; names of the builtins. -/
namespace Ml
open PySem L2
section
variable {K : PySem.W.Frag} {T : Tab} {F : Fc} {W : WX} {X : Cx} {pos pos2 : Pos} {H H0 H' H0' : Hp} {σ σ' : L2.St} {r r' : Rho}
def l_add : D → D → Option (List D)
  | .lst s, .lst t => if s.length + t.length ≤ SZ then some (s ++ t) else none
  | _, _ => none
theorem ml_add : OpL2 K T (rAddA K) l_add := fun x y dx dy z H H0 s h1 h2 e Q q => by
  unfold l_add at e
  split at e
  · split at e
    · rename_i hz; cases e
      obtain ⟨a, vs, rfl, a1, a2⟩ := h1.lst' s
      obtain ⟨b, ws, rfl, b1, b2⟩ := h2.lst' s
      exact .inr (.inr (.inl ⟨a, b, vs, ws, rfl, rfl, a1, b1, by rw [← SZ_eq, a2.length, b2.length]; exact hz, fun p hp => q _ _ ⟨p, _, hp, rfl, rfl, a2.append b2⟩⟩))
    · cases e
  · cases e
/-- for x in data of any kind -/
def i_any (m : EM D) : EM (List D) := fun r => (m r).bind fun d r => match d with
  | .str x => .ok (sgnD x) r
  | d => (match seqOf d with
    | some (_, ds) => .ok ds r
    | none => .bad)
theorem pi_or {tg e : Expr} {t u : TI} (p : PI X tg e t) (q : PI X tg e u) : PI X tg e (fun σ H R => t σ H R ∨ u σ H R) := ⟨fun pins s σ H R I h => by
  rcases h with h | h
  · exact p.run pins s σ H R I h
  · exact q.run pins s σ H R I h⟩
theorem mi_any {tg e : Expr} {m : EM D} (p : PE X e (rdE X.K T F W m)) : PI X tg e (rdI X.K T F W (i_any m)) := pi_weak (pi_or (mi_lst p) (pi_or (mi_tup p) (mi_str p))) fun σ H R ⟨r, H0, R0, w⟩ => by
  have e0 : i_any m r = (m r).bind fun d r => match d with
    | .str x => .ok (sgnD x) r
    | d => (match seqOf d with
      | some (_, ds) => .ok ds r
      | none => .bad) := rfl
  cases em : m r with
  | bad => rw [e0, em] at w; exact w.elim
  | exc c fs r1 =>
    rw [e0, em] at w
    exact .inl ⟨r, H0, R0, by unfold i_lst; rw [em]; exact w⟩
  | ok d r1 =>
    rw [e0, em] at w
    cases d with
    | str x => exact .inr (.inr ⟨r, H0, R0, by unfold i_str; rw [em]; exact w⟩)
    | tup ds => exact .inr (.inl ⟨r, H0, R0, by unfold i_tup; rw [em]; exact w⟩)
    | lst ds => exact .inl ⟨r, H0, R0, by unfold i_lst; rw [em]; exact w⟩
    | ro b ds =>
      cases b with
      | true => exact .inr (.inl ⟨r, H0, R0, by unfold i_tup; rw [em]; exact w⟩)
      | false => exact .inl ⟨r, H0, R0, by unfold i_lst; rw [em]; exact w⟩
    | _ => exact w.elim
/-- a value of its own stands: data -/
def e_frzV (fl : Nat → Nat) (m : EM Slot) : EM D := fun r => (m r).bind fun s r => match s with
  | .fz d => .ok d r
  | s => (match tree s with
    | some t => (match O.data fl t with
      | some d => .ok d r
      | none => .bad)
    | none => .bad)
theorem me_frzV {e : Expr} {m : EM Slot} (p : PE X e (rdV K T F W m)) : PE X e (rdE K T F W (e_frzV (fun c => (T.flds c).length) m)) := pe_weak p fun σ H Q ⟨r, H0, R, w⟩ => by
  refine ⟨r, H0, R, WG.bind w fun s r1 _ w1 v H' H0' R' s' => ?_⟩
  have go : (∀ d, s ≠ .fz d) → WG K T F W (match tree s with
    | some t => (match O.data (fun c => (T.flds c).length) t with
      | some d => .ok d r1
      | none => .bad)
    | none => .bad) σ H0 (fun d r' => ∀ v H' H0', Rel K T F σ H' H0' r' → Sub H0 H0' → Rep K T H0' v d → Q v H') → Q v H' := fun _ w1 => by
    cases et : tree s with
    | none => rw [et] at w1; exact w1.elim
    | some t =>
      rw [et] at w1
      dsimp only at w1
      cases ed : O.data (fun c => (T.flds c).length) t with
      | none => rw [ed] at w1; exact w1.elim
      | some d =>
        rw [ed] at w1
        obtain ⟨H02, s2, R2, h2⟩ := R'.frz R'.lenL R.pinLt et ed
        exact w1 v H' H02 R2 (s'.trans s2) h2
  cases s with
  | fz d => obtain ⟨R3, h3⟩ := R'.popFz R.pinLt; exact w1 v H' H0' R3 s' h3
  | own ds => exact go (fun d z => by cases z) w1
  | obj c ds => exact go (fun d z => by cases z) w1
  | un => exact go (fun d z => by cases z) w1
  | exv c ds => exact go (fun d z => by cases z) w1
  | tr t => exact go (fun d z => by cases z) w1
/-- a text, a number of the module -/
theorem me_gstr {x s : Str} {p : Pos} (h : ∃ t, X.mg x = some (.str s t)) (hg : Gl X x := by rfl) (hd : (x == ("__debug__" : Str)) = false := by decide) : PE X (.Name x p) (rdE K T F W (e_c (.str s))) := by
  obtain ⟨t, h⟩ := h
  exact me_c (v := .str s) (pe_glob hg h (show RelV (.str s) (.str s t) from ⟨t, rfl⟩) hd) fun _ => .str _
theorem me_gint {x : Str} {i : Int} {p : Pos} (h : ∃ t, X.mg x = some (.int i t)) (hg : Gl X x := by rfl) (hd : (x == ("__debug__" : Str)) = false := by decide) : PE X (.Name x p) (rdE K T F W (e_c (.int i))) := by
  obtain ⟨t, h⟩ := h
  exact me_c (v := .int i) (pe_glob hg h (show RelV (.int i) (.int i t) from ⟨t, rfl⟩) hd) fun _ => .int _
theorem pe_negc {i : Int} {j : Nat} {p : Pos} : PE X (.UnaryOp .USub (.Constant (.int i) j p) pos) (tC (.int (-i))) := ⟨fun pins s σ H Q I h => (pe_un un_neg (pe_int (X := X) (i := i) (j := j) (pos := p))).run pins s σ H Q I ⟨i, rfl, h⟩⟩
theorem bt_len : bootBuiltins "len" = some (.builtin "len") := by decide +kernel
theorem bt_abs : bootBuiltins "abs" = some (.builtin "abs") := by decide +kernel
theorem bt_sum : bootBuiltins "sum" = some (.builtin "sum") := by decide +kernel
theorem bt_min : bootBuiltins "min" = some (.builtin "min") := by decide +kernel
theorem bt_max : bootBuiltins "max" = some (.builtin "max") := by decide +kernel
theorem bt_int : bootBuiltins "int" = some (.type "int") := by decide +kernel
theorem bt_str : bootBuiltins "str" = some (.type "str") := by decide +kernel
theorem bt_bool : bootBuiltins "bool" = some (.type "bool") := by decide +kernel
theorem bt_list : bootBuiltins "list" = some (.type "list") := by decide +kernel
theorem bt_tuple : bootBuiltins "tuple" = some (.type "tuple") := by decide +kernel
theorem bt_ValueError : bootBuiltins "ValueError" = some (.type "ValueError") := by decide +kernel
theorem kb_int : ∀ n ∈ ["NoneType", "bool", "int", "str", "tuple", "list"], kitB n "int" = some (tyB n "int") := by decide +kernel
theorem kb_bool : ∀ n ∈ ["NoneType", "bool", "int", "str", "tuple", "list"], kitB n "bool" = some (tyB n "bool") := by decide +kernel
theorem kb_str : ∀ n ∈ ["NoneType", "bool", "int", "str", "tuple", "list"], kitB n "str" = some (tyB n "str") := by decide +kernel
theorem kb_tuple : ∀ n ∈ ["NoneType", "bool", "int", "str", "tuple", "list"], kitB n "tuple" = some (tyB n "tuple") := by decide +kernel
theorem kb_list : ∀ n ∈ ["NoneType", "bool", "int", "str", "tuple", "list"], kitB n "list" = some (tyB n "list") := by decide +kernel
end
end Ml
set_option Elab.async false
set_option linter.all false
set_option maxRecDepth 100000
set_option maxHeartbeats 4000000
/-! Ml19: a fresh value as an argument that the callee may change; a value appended at a place. -/
namespace Ml
open PySem L2
section
variable {K : PySem.W.Frag} {T : Tab} {F : Fc} {W : WX} {X : Cx} {pos pos2 : Pos} {H H0 H' H0' : Hp} {σ σ' : L2.St} {r r' : Rho}
def s_doV (m : EM Slot) : SM := fun r => (m r).seq fun _ r => .nx r
theorem Rel.dropMid {u v : Option V} {s s2 : Slot} (R : Rel K T F ((σ ++ [v]) ++ [u]) H H0 ((r ++ [s]) ++ [s2])) (hl : σ.length = r.length) (pn : ∀ q ∈ F.R, σ[q.1]? = some (some (.ref q.2))) : Rel K T F (σ ++ [u]) H H0 (r ++ [s2]) := by
  refine R.pick (fun j => if j < r.length then some j else if j = r.length then some (r.length + 1) else none) (by simp [hl]) (fun j x e => .inr ?_) (fun j k i h1 h2 => ?_) fun q hq => ?_
  · rcases lastCases (n := 0) e with ⟨rfl, rfl⟩ | ⟨h, e'⟩
    · refine ⟨_, by rw [if_neg (Nat.lt_irrefl _), if_pos rfl], ?_, ?_⟩
      · have : (r ++ [s]).length = r.length + 1 := by simp
        rw [← this]; exact ixLast
      · have e1 : (σ ++ [v]).length = r.length + 1 := by simp [hl]
        have e2 : ((σ ++ [v]) ++ [u])[r.length + 1]? = some u := by rw [← e1]; exact ixLast
        rw [e2, ← hl]; exact ixLast
    · refine ⟨j, if_pos h, ?_, ?_⟩
      · rw [List.append_assoc, List.getElem?_append_left h]; exact e'
      · rw [List.append_assoc, List.getElem?_append_left (by rw [hl]; exact h), List.getElem?_append_left (by rw [hl]; exact h)]
  · try dsimp only at h1 h2
    by_cases a1 : j < r.length
    · rw [if_pos a1] at h1
      by_cases a2 : k < r.length
      · rw [if_pos a2] at h2; have := Option.some.inj h1; have := Option.some.inj h2; omega
      · rw [if_neg a2] at h2
        by_cases b2 : k = r.length
        · rw [if_pos b2] at h2; have := Option.some.inj h1; have := Option.some.inj h2; omega
        · rw [if_neg b2] at h2; cases h2
    · rw [if_neg a1] at h1
      by_cases b1 : j = r.length
      · rw [if_pos b1] at h1
        by_cases a2 : k < r.length
        · rw [if_pos a2] at h2; have := Option.some.inj h1; have := Option.some.inj h2; omega
        · rw [if_neg a2] at h2
          by_cases b2 : k = r.length
          · omega
          · rw [if_neg b2] at h2; cases h2
      · rw [if_neg b1] at h1; cases h1
  · have q1 := pn q hq
    rw [List.getElem?_append_left (List.getElem?_eq_some_iff.mp q1).1]
    exact q1
def v_callV (m : Rho → FO) (mv : EM Slot) (ma : EM (List AD)) : EM Slot := fun r => (mv r).bind fun s r1 => (ma r1).bind fun as r2 => match call m (.ow r2.length :: as) (r2 ++ [s]) with
  | .ok s2 r3 => .ok s2 (r3.take r2.length)
  | .exc e fs r3 => .exc e fs (r3.take r2.length)
  | .bad => .bad
theorem mv_callV {x : Str} {k : Nat} {m : Rho → FO} {p : Pos} {e : Expr} {es : List Expr} {mv : EM Slot} {ma : EM (List AD)} (G : Cal X.prog X.w X.K X.mg X.base T x k m) (hr : Room k X.A) (tk : Takes X W) (h : PE X e (rdV X.K T F W mv)) (hs : ∀ F', F'.R = [] → PA X es (rdA X.K T F' W ma)) (hg : Gl X x := by rfl)
    (hdb : (x == ("__debug__" : Str)) = false := by decide) (he : starEach (e :: es) X.env = (false, eval e X.env) :: starEach es X.env := by rfl) (hpl : (backTo pos (starEach es X.env)).any (·.1) = false := by rfl) :
    PE X (.Call (.Name x p) (e :: es) [] pos) (rdV X.K T F W (v_callV m mv ma)) := by
  obtain ⟨f, fd, ps, Fn, hm, hk, hb⟩ := G.ex
  have pa : PA X es (fun σ H Q => ∃ F', F'.R = [] ∧ rdA X.K T F' W ma σ H Q) := ⟨fun pos pins s σ H Q I ⟨F', hF, q⟩ => (hs F' hF).run pos pins s σ H Q I q⟩
  refine pe_weak (pe_callS (E := fun σ => WE W σ) Fn hr hg hm hk hb (fun σ => passAt tk σ) (pa_cons h pa he) hdb he hpl) fun σ H Q ⟨r, H0, R, w⟩ => ?_
  refine ⟨r, H0, R, WG.bind w fun s r1 _ w1 v H1 H01 R1 s1 => ?_⟩
  have hl := R1.lenL
  obtain ⟨Fh, _, fR, RH, back, _⟩ := R1.hide hl
  have pn2 : ∀ q ∈ F.R, (σ ++ [some v])[q.1]? = some (some (.ref q.2)) := fun q hq => by
    have q1 := R.pins q hq
    rw [List.getElem?_append_left (List.getElem?_eq_some_iff.mp q1).1]; exact q1
  refine ⟨Fh, fR, r1, H01, RH, ?_⟩
  cases em : ma r1 with
  | bad => rw [em] at w1; exact w1.elim
  | exc c fs r2 =>
    rw [em] at w1
    intro dd H2 H02 R2 s2 p
    obtain ⟨R3, s3⟩ := back σ H2 H02 r2 R2 pn2
    exact w1 dd H2 H02 (R3.drop R3.lenL R.pinLt) (s1.trans s3) p
  | ok as r2 =>
    rw [em] at w1
    intro us H2 H02 R2 s2 hus
    obtain ⟨R3, s3⟩ := back σ H2 H02 r2 R2 pn2
    have hl2 := R3.lenL
    have w1 : WG X.K T F W (match call m (.ow r2.length :: as) (r2 ++ [s]) with
      | .ok s2 r3 => .ok s2 (r3.take r2.length)
      | .exc e fs r3 => .exc e fs (r3.take r2.length)
      | .bad => .bad) σ H0 _ := w1
    refine sp_call (W := fun cls d σ2 H => W cls d σ H) (k := fun s' r3 => ∀ v H' H0', Rel X.K T F (σ ++ [some v]) H' H0' (r3.take r2.length ++ [s']) → Sub H0 H0' → Q v H') R3 (.cons (a := .ow r2.length) (by show (σ ++ [some v])[r2.length]? = _; rw [← hl2]; exact ixLast) hus.app) ?_ fun s' r3 hk' u H3 H03 R4 s4 => ?_
    · cases ec : call m (.ow r2.length :: as) (r2 ++ [s]) with
      | bad => rw [ec] at w1; exact w1.elim
      | exc e fs r3 =>
        rw [ec] at w1
        intro dd H3 H03 R4 s4 p
        have l2 : r3.length = r2.length + 1 := by rw [← R4.len]; simp [hl2]
        obtain ⟨s', e'⟩ : ∃ s', r3[r2.length]? = some s' := ⟨_, List.getElem?_eq_getElem (by omega)⟩
        rw [takeLast l2 e'] at R4
        exact w1 dd H3 H03 (R4.drop (by rw [hl2, List.length_take]; omega) R.pinLt) ((s1.trans s3).trans s4) p
      | ok s' r3 =>
        rw [ec] at w1
        exact w1
    · have l2 : r3.length = r2.length + 1 := by
        have := R4.lenL
        rw [← this]; simp [hl2]
      obtain ⟨x', e'⟩ : ∃ s', r3[r2.length]? = some s' := ⟨_, List.getElem?_eq_getElem (by omega)⟩
      rw [takeLast l2 e'] at R4
      exact hk' u H3 H03 (R4.dropMid (by rw [hl2, List.length_take]; omega) R.pins) ((s1.trans s3).trans s4)
/-- x.append(v), v a value of its own -/
theorem rd_pmV {m : PlM} {mv : EM Slot} {te : TE} (hte : ∀ F' σ H Q, F'.R = [] → rdV K T F' W0 mv σ H Q → te σ H Q) {Q : VK} (h : rdE K T F W (e_pmV m mv) σ H Q) : tBM K "list" rAppend (rdK K T F m) (tCons te tNil) σ H Q := by
  obtain ⟨r, H0, R, w⟩ := h
  unfold e_pmV at w
  cases em : m r with
  | none => rw [em] at w; exact w.elim
  | some ip =>
    obtain ⟨i, p⟩ := ip
    rw [em] at w
    dsimp only at w
    cases es : r[i]? with
    | none => rw [es] at w; exact w.elim
    | some s =>
      rw [es] at w
      dsimp only at w
      cases et : tree s with
      | none => rw [et] at w; exact w.elim
      | some t =>
        rw [et] at w
        dsimp only at w
        split at w
        · rename_i ts eg
          refine ⟨r, H0, i, p, R, em, fun v0 v e0 hk => ?_⟩
          have hlr : σ.length = (r.set i .un).length := by simpa using R.len
          obtain ⟨Fh, _, fR, RH, back, g, sg, same⟩ := (R.pull es e0).hide hlr
          unfold SlotOk at sg
          rw [et] at sg
          obtain ⟨v0', ev, tg⟩ := sg
          cases ev
          obtain ⟨w1, l1, g1, rr1, k1, k2, _⟩ := tg.at eg
          have zz := hk.det k1
          subst zz
          cases k2 with
          | @lst a vs1 _ fp1 q1 n1 tr1 =>
            refine ⟨.inl ⟨rfl, _, SqL.of q1⟩, hte Fh _ _ _ fR ⟨r.set i .un, H0, RH, ?_⟩⟩
            cases ea : mv (r.set i .un) with
            | exc c fs r2 => rw [ea] at w; exact w.elim
            | bad => rw [ea] at w; exact w.elim
            | ok sy r2 =>
              rw [ea] at w
              intro y H2 H02 R2 s2
              dsimp only at w
              cases eo : toO sy with
              | none => rw [eo] at w; exact w.elim
              | some o =>
                rw [eo] at w
                dsimp only at w
                split at w
                · rename_i hz
                  have hl2 := R2.lenL
                  obtain ⟨R3, s3⟩ := back (σ ++ [some y]) H2 H02 (r2 ++ [sy]) R2 fun q hq => by
                    have q1 := R.pins q hq
                    have l := (List.getElem?_eq_some_iff.mp q1).1
                    rw [List.getElem?_append_left (by rw [List.length_append]; omega), List.getElem?_append_left l]; exact q1
                  have R3' := R3.front (us := [some y]) (ss := [sy]) (σ := σ) (r := r2) hl2 rfl R.pins
                  -- the list's slot at r2.length, the value at r2.length + 1
                  obtain ⟨fp, ff⟩ := R3'.fps
                  have sl := ff.slot r2.length s (by rw [List.getElem?_append_right (Nat.le_refl _), Nat.sub_self]; rfl)
                  have ul : (σ ++ [some v0, some y])[r2.length]? = some (some v0) := by rw [← hl2, List.getElem?_append_right (Nat.le_refl _), Nat.sub_self]; rfl
                  have sy1 := ff.slot (r2.length + 1) sy (by rw [List.getElem?_append_right (by omega), show r2.length + 1 - r2.length = 1 by omega]; rfl)
                  have uy : (σ ++ [some v0, some y])[r2.length + 1]? = some (some y) := by rw [← hl2, List.getElem?_append_right (by omega), show σ.length + 1 - σ.length = 1 by omega]; rfl
                  rw [ul] at sl
                  rw [uy] at sy1
                  unfold SlotOk at sl
                  rw [et] at sl
                  obtain ⟨v0', ev, tl⟩ := sl
                  cases ev
                  obtain ⟨y', ey, ty⟩ := sy1.toTree eo
                  cases ey
                  obtain ⟨w2, l2, g2, rr2, j1, j2, j3, j4⟩ := tl.at eg
                  have kk := Kid.mono tg hk (by rw [eg]; rfl) (same _ H2 H02 _ R2)
                  have zz := kk.det j1
                  subst zz
                  cases j2 with
                  | @lst _ vs2 _ fp2 q2 n2 tr2 =>
                    refine ⟨a, vs2, y, rfl, rfl, q2, by rw [← SZ_eq, tr2.length]; exact hz, ?_⟩
                    have nd := ff.nd r2.length
                    have ndy := ff.nd (r2.length + 1)
                    have dj : ∀ b, b ∈ fp r2.length → b ∈ fp (r2.length + 1) → False := fun b m1 m2 => by have := ff.dj _ _ b m1 m2; omega
                    have ha : a ∈ fp r2.length := by rw [j3]; simp
                    generalize hgy : fp (r2.length + 1) = gy at ty ndy dj
                    rw [j3] at nd
                    have nd1 := List.nodup_append.mp nd
                    have nd2 := List.nodup_append.mp nd1.1
                    have nd3 := List.nodup_cons.mp nd2.2.1
                    have na : ∀ b, b ∈ l2 ++ rr2 → b ≠ a := fun b m z => by
                      subst z
                      rcases List.mem_append.mp m with m | m
                      · exact nd2.2.2 b m b List.mem_cons_self rfl
                      · exact nd1.2.2 b (by simp) b m rfl
                    have na2 : ∀ b ∈ fp2, b ≠ a := fun b m z => nd3.1 (by subst z; exact m)
                    have nay : ∀ b ∈ gy, b ≠ a := fun b m z => by subst z; exact dj b ha m
                    have tl2 : TreesOk K T (upd H2 a (.lst (vs2 ++ [y]))) H02 (vs2 ++ [y]) (ts ++ [o]) (fp2 ++ (gy ++ [])) :=
                      (tr2.mono (Sub.refl _) fun b m u e n => ⟨by rw [upd_ne (na2 b m)]; exact e, n⟩).append (.cons (ty.mono (Sub.refl _) fun b m u e n => ⟨by rw [upd_ne (nay b m)]; exact e, n⟩) .nil)
                    rw [List.append_nil] at tl2
                    have tnew := j4 (upd H2 a (.lst (vs2 ++ [y]))) (.lst (ts ++ [o])) (a :: (fp2 ++ gy)) (fun b m => upd_ne (na b m)) (.lst upd_same n2 tl2)
                    have memNew : ∀ b, b ∈ l2 ++ (a :: (fp2 ++ gy)) ++ rr2 → b ∈ fp r2.length ∨ b ∈ gy := fun b m => by
                      rw [j3]
                      simp only [List.mem_append, List.mem_cons] at m ⊢
                      rcases m with (m | m | m | m) | m
                      · exact .inl (.inl (.inl m))
                      · exact .inl (.inl (.inr (.inl m)))
                      · exact .inl (.inl (.inr (.inr m)))
                      · exact .inr m
                      · exact .inl (.inr m)
                    have djl : ∀ b, b ∈ l2 ++ (a :: fp2) ++ rr2 → b ∉ gy := fun b m1 m2 => dj b (by rw [j3]; exact m1) m2
                    have ndNew : (l2 ++ (a :: (fp2 ++ gy)) ++ rr2).Nodup := by
                      refine List.nodup_append.mpr ⟨List.nodup_append.mpr ⟨nd2.1, List.nodup_cons.mpr ⟨fun m => ?_, List.nodup_append.mpr ⟨nd3.2, ndy, fun b m c m2 z => ?_⟩⟩, fun b m c m2 z => ?_⟩, nd1.2.1, fun b m c m2 z => ?_⟩
                      · rcases List.mem_append.mp m with m | m
                        · exact na2 a m rfl
                        · exact nay a m rfl
                      · subst z; exact djl b (by simp [m]) m2
                      · subst z
                        rcases List.mem_cons.mp m2 with m2 | m2
                        · exact nd2.2.2 b m b (by simp [m2]) rfl
                        · rcases List.mem_append.mp m2 with m2 | m2
                          · exact nd2.2.2 b m b (by simp [m2]) rfl
                          · exact djl b (by simp [m]) m2
                      · subst z
                        rcases List.mem_append.mp m with m | m
                        · exact nd1.2.2 b (by simp [m]) b m2 rfl
                        · rcases List.mem_cons.mp m with m | m
                          · exact nd1.2.2 b (by simp [m]) b m2 rfl
                          · rcases List.mem_append.mp m with m | m
                            · exact nd1.2.2 b (by simp [m]) b m2 rfl
                            · exact djl b (by simp [m2]) m
                    have gl : ∀ j, j < r2.length → (r2 ++ [s, sy])[j]? = r2[j]? := fun j h => List.getElem?_append_left h
                    have R4 := R3'.write ff (k := r2.length) ha (o := .lst (vs2 ++ [y])) (σ' := σ ++ [some v0]) (r' := r2 ++ [norm (O.put t p (.lst (ts ++ [o])))]) (fp' := fun j => if j < r2.length then fp j else if j = r2.length then l2 ++ (a :: (fp2 ++ gy)) ++ rr2 else []) (by simp [hl2]) ⟨fun j x e => ?_, fun j e => ?_, fun j => ?_, fun j k b m1 m2 => ?_, fun j b m => ?_⟩ fun q hq => by
                        have q1 := R.pins q hq
                        rw [List.getElem?_append_left (List.getElem?_eq_some_iff.mp q1).1]; exact q1
                    · have R5 := R4.back hl2 e0 R.pins
                      exact w .non _ H02 R5 s2 .non
                    · rcases lastCases (n := 0) e with ⟨rfl, rfl⟩ | ⟨h, e'⟩
                      · rw [← hl2, ixLast]
                        simp only [hl2, if_true, if_neg (Nat.lt_irrefl r2.length)]
                        exact SlotOk.ofTree rfl tnew
                      · rw [List.getElem?_append_left (by rw [hl2]; exact h)]
                        simp only [if_pos h]
                        have q := ff.slot j x (by rw [List.getElem?_append_left h]; exact e')
                        rw [List.getElem?_append_left (by rw [hl2]; exact h)] at q
                        exact q.mono (Sub.refl _) fun b m u e n => ⟨by rw [upd_ne fun z => by have := ff.dj j r2.length a (by rw [← z]; exact m) ha; omega]; exact e, n⟩
                    · have l : (r2 ++ [norm (O.put t p (.lst (ts ++ [o])))]).length ≤ j := List.getElem?_eq_none_iff.mp e
                      have l : r2.length + 1 ≤ j := by simpa using l
                      simp only [if_neg (show ¬ j < r2.length by omega), if_neg (show j ≠ r2.length by omega)]
                    · try dsimp only
                      split
                      · exact ff.nd j
                      · split
                        · exact ndNew
                        · exact List.nodup_nil
                    · have up : ∀ j, b ∈ (if j < r2.length then fp j else if j = r2.length then l2 ++ (a :: (fp2 ++ gy)) ++ rr2 else []) → (j < r2.length ∧ b ∈ fp j) ∨ (j = r2.length ∧ (b ∈ fp r2.length ∨ b ∈ fp (r2.length + 1))) := fun j m => by
                        split at m
                        · rename_i h; exact .inl ⟨h, m⟩
                        · split at m
                          · rename_i h; exact .inr ⟨h, by rw [hgy]; exact memNew b m⟩
                          · cases m
                      rcases up j m1 with ⟨a1, b1⟩ | ⟨a1, b1⟩
                      · rcases up k m2 with ⟨c1, d1⟩ | ⟨c1, d1⟩
                        · exact ff.dj j k b b1 d1
                        · rcases d1 with d1 | d1
                          · have := ff.dj _ _ b b1 d1; omega
                          · have := ff.dj _ _ b b1 d1; omega
                      · rcases up k m2 with ⟨c1, d1⟩ | ⟨c1, d1⟩
                        · rcases b1 with b1 | b1
                          · have := ff.dj _ _ b b1 d1; omega
                          · have := ff.dj _ _ b b1 d1; omega
                        · rw [a1, c1]
                    · try dsimp only at m
                      split at m
                      · exact ff.mine j b m
                      · split at m
                        · rcases memNew b m with m | m
                          · exact ff.mine _ b m
                          · exact ff.mine (r2.length + 1) b (by rw [hgy]; exact m)
                        · cases m
                · exact w.elim
        · exact w.elim
theorem me_pappendV {o e : Expr} {m : PlM} {mv : EM Slot} {apos : Pos} (ho : PE X o (rdK X.K T F m)) (ha : ∀ F', F'.R = [] → PE X e (rdV X.K T F' W0 mv)) (hbase : attributeBase o "append" X.env (eval o X.env) = eval o X.env := by rfl)
    (hfew : ((backTo pos (starEach (e :: []) X.env)).all (fun x => !x.1) && (backToKw pos (keywordEach [] X.env)).all (fun x => x.1.isSome)
      && decide ((e :: []).length + ([] : List Keyword).length + (if ([] : List Keyword).isEmpty then 0 else 1) < 30)) = true := by rfl)
    (hline : (apos.endLine == pos.line) = true := by rfl) (hs : starEach (e :: []) X.env = (false, eval e X.env) :: starEach [] X.env := by rfl) (hplain : (backTo pos (starEach [] X.env)).any (·.1) = false := by rfl) :
    PE X (.Call (.Attribute o "append" apos) (e :: []) [] pos) (rdE X.K T F W (e_pmV m mv)) := by
  have pe : PE X e (fun σ H Q => ∃ F', F'.R = [] ∧ rdV X.K T F' W0 mv σ H Q) := ⟨fun pins s σ H Q I ⟨F', hF, q⟩ => (ha F' hF).run pins s σ H Q I q⟩
  exact pe_weak (pe_bm PySem.F.plainAttrs_list slot_list_append type_list_append mt_append ho (pa_cons pe pa_nil hs) hbase hfew hline hs hplain) fun σ H Q h => rd_pmV (fun F' _ _ _ hF h => ⟨F', hF, h⟩) h
theorem Io.at {io : List Nat} (h : Io F io) (a : Addr) (cls : Value) (d : Option Addr) : Io (F.at a cls d) io := h
theorem law_sp2 {m : Rho → FO} {a : Addr} {ns : List Int} {outs : Rho} {Q : VK} {E : XK} (hS : SqL K H a (ns.map V.int)) (e : m [.fz (.ro false (ns.map D.int))] = .ret (.fz (.bl true)) outs) (hq : ∀ H', Q (.bl true) H') : spM K T m [.ref a] H Q E := by
  have h := law_sp (T := T) hS e
  obtain ⟨H0, ss, A, R, k⟩ := h
  refine ⟨H0, ss, A, R, ?_⟩
  cases em : m ss with
  | ret s o =>
    rw [em] at k
    intro v σ' H' H0' R' l p
    rw [k v σ' H' H0' R' l p]
    exact hq H'
  | exc c fs o =>
    rw [em] at k
    exact fun dd σ' H' H0' R' p => (k dd σ' H' H0' R' p).elim
  | bad => rw [em] at k; exact k
end
end Ml
set_option Elab.async false
set_option linter.all false
set_option maxRecDepth 100000
set_option maxHeartbeats 4000000
namespace Gk
open PySem L2 Ml
def top (i : Nat) : Stmt := PySem.Challenge.pw_crossinglights_k91_row_text.main.body.getD i (.Pass ⟨0, 0, 0, 0⟩)
def clsB : Stmt → List Stmt
  | .ClassDef (body := b) .. => b
  | _ => []
def efl : Nat → List Str
  | 2 => ["place"]
  | 3 => ["number"]
  | _ => []
def flds : Nat → List Str
  | 4 => ["parts", "times"]
  | _ => []
def fl : Nat → Nat := fun c => (flds c).length
theorem ndf_RowReader : (flds 4).Nodup := by decide
theorem lnf_RowReader : (flds 4).length < 1000 := by decide
theorem nde_BadWord : (efl 2).Nodup := by decide
theorem nde_BadLine : (efl 3).Nodup := by decide
abbrev tab (cls : Nat → Addr) : Tab := ⟨cls, flds, efl⟩
def hit_BadWord : Nat → Option Bool
  | 1 => some false
  | 2 => some true
  | 3 => some false
  | _ => none
def hit_LightsError : Nat → Option Bool
  | 1 => some true
  | 2 => some true
  | 3 => some true
  | _ => none
def xis_BadWord_BadLine : Nat → Option Bool
  | 2 => some false
  | _ => none
def xis_BadWord_ValueError : Nat → Option Bool
  | 2 => some true
  | _ => none
def xis_LightsError_ValueError : Nat → Option Bool
  | 1 => some true
  | 2 => some true
  | 3 => some true
  | _ => none
def st_number_of : Stmt := top 6
def B_number_of : SM :=
    (s_seq (s_if (t_or (t_not (t_bol (e_chain o_le o_le (p_d (e_c (.int 1))) (p_d (os f_len (a_cons (p_d (e_var 0)) a_nil))) (p_d (e_c (.int 3)))))) (t_and (t_bol (o2 o_eq (p_d (o2 o_ix (p_d (e_var 0)) (p_d (e_c (.int 0))))) (p_d (e_c (.str "0"))))) (t_bol (o2 o_ne (p_d (e_var 0)) (p_d (e_c (.str "0"))))))) (s_ret (e_c .non)) s_nil)
    (s_seq (s_for (i_any (e_var 0)) (g_name 1) (s_if (t_bol (o2 o_nin (p_d (e_var 1)) (p_d (e_c (.str "0123456789"))))) (s_ret (e_c .non)) s_nil))
    (s_ret (os f_int (a_cons (p_d (e_var 0)) a_nil)))))
def M_number_of : Rho → FO := defM [] 1 1 B_number_of
def st_comings_word : Stmt := top 11
def B_comings_word : SM :=
    (s_seq (s_set 2 (e_sm f_join (e_c (.str "")) (a_cons (p_d (e_lst (l_lc [3] (i_any (e_var 0)) (g_name 3) t_yes (os f_str (a_cons (p_d (e_var 3)) a_nil))))) a_nil)))
    (s_seq (s_if (t_bol (o2 o_eq (p_d (e_var 1)) (p_d (e_c (.int 1))))) (s_ret (e_var 2)) s_nil)
    (s_ret (e_jn [e_fmt (e_var 1), (e_c (.str "*")), e_fmt (e_var 2)]))))
def M_comings_word : Rho → FO := defM [] 2 2 B_comings_word
def st_row_text : Stmt := top 12
def B_row_text : SM :=
    (s_seq (s_own 1 (l_lst a_nil))
    (s_seq (s_set 2 (e_c (.int 0)))
    (s_seq (s_for (i_rng1 (a_cons (p_d (os f_len (a_cons (p_d (e_var 0)) a_nil))) a_nil)) (g_name 3) (s_if (t_or (t_bol (o2 o_eq (p_d (o2 o_add (p_d (e_var 3)) (p_d (e_c (.int 1))))) (p_d (os f_len (a_cons (p_d (e_var 0)) a_nil))))) (t_bol (o2 o_ne (p_d (o2 o_ix (p_d (e_var 0)) (p_d (o2 o_add (p_d (e_var 3)) (p_d (e_c (.int 1))))))) (p_d (o2 o_ix (p_d (e_var 0)) (p_d (e_var 3))))))) (s_seq (s_do (e_lm 1 f_append (a_cons (p_d (e_call M_comings_word (a_cons (p_d (o2 o_ix (p_d (e_var 0)) (p_d (e_var 3)))) (a_cons (p_d (o2 o_sub (p_d (o2 o_add (p_d (e_var 3)) (p_d (e_c (.int 1))))) (p_d (e_var 2)))) a_nil)))) a_nil)))
    (s_set 2 (o2 o_add (p_d (e_var 3)) (p_d (e_c (.int 1)))))) s_nil))
    (s_ret (e_sm f_join (e_c (.str " ")) (a_cons (p_ow 1) a_nil))))))
def M_row_text : Rho → FO := defM [] 1 3 B_row_text
def st_comings_of : Stmt := top 13
def B_comings_of : SM :=
    (s_seq (s_if (t_bol (o2 o_ne (p_d (os f_len (a_cons (p_d (e_var 0)) a_nil))) (p_d (e_var 1)))) (s_ret (e_c .non)) s_nil)
    (s_seq (s_set 2 (e_lst (l_lc [3] (i_any (e_var 0)) (g_name 3) t_yes (e_sm f_find (e_c (.str "012")) (a_cons (p_d (e_var 3)) a_nil)))))
    (s_seq (s_if (t_bol (o2 o_lt (p_d (os f_min (a_cons (p_d (e_var 2)) a_nil))) (p_d (e_c (.int 0))))) (s_ret (e_c .non)) s_nil)
    (s_ret (os f_tuple (a_cons (p_d (e_var 2)) a_nil))))))
def M_comings_of : Rho → FO := defM [] 2 2 B_comings_of
def st_split_word : Stmt := top 14
def B_split_word : SM :=
    (s_seq (s_if (t_bol (o2 o_nin (p_d (e_c (.str "*"))) (p_d (e_var 0)))) (s_ret (e_tup (a_cons (p_d (e_c (.int 1))) (a_cons (p_d (e_var 0)) a_nil)))) s_nil)
    (s_seq (s_asg (g_tup 3 (gs_cons (g_name 1) (gs_cons (g_name 2) (gs_cons (g_name 3) gs_nil)))) (e_sm f_partition (e_var 0) (a_cons (p_d (e_c (.str "*"))) a_nil)))
    (s_seq (s_set 4 (e_call M_number_of (a_cons (p_d (e_var 1)) a_nil)))
    (s_ret (e_tup (a_cons (p_d (e_if (t_bol (o2 o_isN (p_d (e_var 4)) (p_d (e_c .non)))) (e_c (.int 0)) (e_var 4))) (a_cons (p_d (e_var 3)) a_nil)))))))
def M_split_word : Rho → FO := defM [] 1 4 B_split_word
def st_RowReader___init : Stmt := (clsB (top 15)).getD 0 (.Pass ⟨0, 0, 0, 0⟩)
def B_RowReader___init : SM :=
    (s_seq (s_fld 4 0 0 (v_lst (vs_cons (v_lst vs_nil) vs_nil)))
    (s_fld 4 0 1 (v_lst vs_nil)))
def M_RowReader___init : Rho → FO := defM [0] 1 0 B_RowReader___init
def st_RowReader_room : Stmt := (clsB (top 15)).getD 1 (.Pass ⟨0, 0, 0, 0⟩)
def B_RowReader_room : SM :=
    (s_ret (o2 o_sub (p_d (e_c (.int 1000))) (p_d (os f_sum (a_cons (p_d (e_lst (l_lc [1] (i_any (o1 (o_fld 4 0) (p_d (e_var 0)))) (g_name 1) t_yes (os f_len (a_cons (p_d (e_var 1)) a_nil))))) a_nil)))))
def M_RowReader_room : Rho → FO := defM [] 1 1 B_RowReader_room
def st_RowReader_add : Stmt := (clsB (top 15)).getD 4 (.Pass ⟨0, 0, 0, 0⟩)
def B_RowReader_add : SM :=
    (s_seq (s_if (t_bor fl (t_bol (o2 o_gt (p_d (o2 o_mul (p_d (e_var 2)) (p_d (os f_len (a_cons (p_d (e_var 1)) a_nil))))) (p_d (e_ofV (v_methD 4 M_RowReader_room (e_var 0) a_nil)))))) (s_ret (e_c (.bl false))) s_nil)
    (s_seq (s_do (e_pm (pl_ix (-1) (pl_fld 4 0 (pl_var 0))) g_extend (a_cons (p_d (o2 o_mul (p_d (e_var 1)) (p_d (e_var 2)))) a_nil)))
    (s_ret (e_c (.bl true)))))
def M_RowReader_add : Rho → FO := defM [0] 3 0 B_RowReader_add
def st_RowReader_end_group : Stmt := (clsB (top 15)).getD 2 (.Pass ⟨0, 0, 0, 0⟩)
def B_RowReader_end_group : SM :=
    (s_seq (s_if (t_bor fl (t_bol (o2 o_eq (p_d (os f_len (a_cons (p_d (o1 (o_fld 4 1) (p_d (e_var 0)))) a_nil))) (p_d (e_c (.int 0)))))) (s_ret (e_c (.bl false))) s_nil)
    (s_seq (s_setV 1 (v_pop (pl_fld 4 1 (pl_var 0))))
    (s_seq (s_setV 2 (v_pop (pl_fld 4 0 (pl_var 0))))
    (s_ret (e_ofV (v_meth 4 0 M_RowReader_add (a_cons (p_d (e_frz 2)) (a_cons (p_d (e_frz 1)) a_nil))))))))
def M_RowReader_end_group : Rho → FO := defM [0] 1 2 B_RowReader_end_group
def st_RowReader_begin_group : Stmt := (clsB (top 15)).getD 3 (.Pass ⟨0, 0, 0, 0⟩)
def B_RowReader_begin_group : SM :=
    (s_seq (s_if (t_bor fl (t_bol (o2 o_eq (p_d (os f_len (a_cons (p_d (o1 (o_fld 4 1) (p_d (e_var 0)))) a_nil))) (p_d (e_c (.int 4)))))) (s_ret (e_c (.bl false))) s_nil)
    (s_seq (s_do (e_pm (pl_fld 4 1 (pl_var 0)) g_append (a_cons (p_d (e_var 1)) a_nil)))
    (s_seq (s_do (e_pmV (pl_fld 4 0 (pl_var 0)) (v_lst vs_nil)))
    (s_ret (e_c (.bl true))))))
def M_RowReader_begin_group : Rho → FO := defM [0] 2 0 B_RowReader_begin_group
def st_RowReader_read_word : Stmt := (clsB (top 15)).getD 5 (.Pass ⟨0, 0, 0, 0⟩)
def B_RowReader_read_word : SM :=
    (s_seq (s_if (t_bol (o2 o_eq (p_d (e_var 1)) (p_d (e_c (.str ")"))))) (s_ret (e_ofV (v_meth 4 0 M_RowReader_end_group a_nil))) s_nil)
    (s_seq (s_asg (g_tup 2 (gs_cons (g_name 3) (gs_cons (g_name 4) gs_nil))) (e_call M_split_word (a_cons (p_d (e_var 1)) a_nil)))
    (s_seq (s_if (t_bol (o2 o_eq (p_d (e_var 3)) (p_d (e_c (.int 0))))) (s_ret (e_c (.bl false))) s_nil)
    (s_seq (s_if (t_bol (o2 o_eq (p_d (e_var 4)) (p_d (e_c (.str "("))))) (s_ret (e_and (o2 o_in (p_d (e_c (.str "*"))) (p_d (e_var 1))) (e_ofV (v_meth 4 0 M_RowReader_begin_group (a_cons (p_d (e_var 3)) a_nil))))) s_nil)
    (s_seq (s_set 5 (e_call M_comings_of (a_cons (p_d (e_var 4)) (a_cons (p_d (e_var 2)) a_nil))))
    (s_ret (e_and (o2 o_notN (p_d (e_var 5)) (p_d (e_c .non))) (e_ofV (v_meth 4 0 M_RowReader_add (a_cons (p_d (e_lst (l_lst (a_cons (p_d (e_var 5)) a_nil)))) (a_cons (p_d (e_var 3)) a_nil)))))))))))
def M_RowReader_read_word : Rho → FO := defM [0] 3 3 B_RowReader_read_word
def st_read_row : Stmt := top 16
def B_read_row : SM :=
    (s_seq (s_if (t_bol (o2 o_eq (p_d (e_var 0)) (p_d (e_c (.str ""))))) (s_retV (v_own (l_lst a_nil))) s_nil)
    (s_seq (s_setV 2 (v_make 4 M_RowReader___init a_nil))
    (s_seq (s_set 3 (e_sm f_split (e_var 0) (a_cons (p_d (e_c (.str " "))) a_nil)))
    (s_seq (s_for (i_enum (a_cons (p_d (e_var 3)) a_nil)) (g_tup 2 (gs_cons (g_name 4) (gs_cons (g_name 5) gs_nil))) (s_if (t_not (o1 tru (p_d (e_ofV (v_meth 4 2 M_RowReader_read_word (a_cons (p_d (e_var 5)) (a_cons (p_d (e_var 1)) a_nil))))))) (s_exc 2 x_1 (a_cons (p_d (e_var 4)) a_nil)) s_nil))
    (s_seq (s_if (t_bor fl (t_bol (o2 o_gt (p_d (os f_len (a_cons (p_d (o1 (o_fld 4 1) (p_d (e_var 2)))) a_nil))) (p_d (e_c (.int 0)))))) (s_exc 2 x_1 (a_cons (p_d (os f_len (a_cons (p_d (e_var 3)) a_nil))) a_nil)) s_nil)
    (s_retV (v_at (pl_ix (0) (pl_fld 4 0 (pl_var 2))))))))))
def M_read_row : Rho → FO := defM [] 2 4 B_read_row
def st_law_cell : Stmt := top 18
def B_law_cell : SM :=
    (s_seq (s_if (t_bol (o2 o_lt (p_d (e_var 1)) (p_d (os f_len (a_cons (p_d (e_var 0)) a_nil))))) (s_ret (os f_abs (a_cons (p_d (o2 o_ix (p_d (e_var 0)) (p_d (e_var 1)))) a_nil))) s_nil)
    (s_ret (e_c (.int 0))))
def M_law_cell : Rho → FO := defM [] 2 0 B_law_cell
def st_law_hand : Stmt := top 19
def B_law_hand : SM :=
    (s_seq (s_set 2 (e_call M_law_cell (a_cons (p_d (e_var 0)) (a_cons (p_d (e_var 1)) a_nil))))
    (s_retV (v_own (l_lst (a_cons (p_d (e_var 2)) (a_cons (p_d (os f_int (a_cons (p_d (o2 o_ge (p_d (e_var 2)) (p_d (o2 o_pow (p_d (e_c (.int 10))) (p_d (e_c (.int 18))))))) a_nil))) (a_cons (p_d (e_c (.int 0))) (a_cons (p_d (o2 o_add (p_d (o2 o_mod (p_d (os f_int (a_cons (p_d (e_var 2)) a_nil))) (p_d (e_c (.int 2147483629))))) (p_d (o2 o_mul (p_d (e_c (.int 7))) (p_d (e_var 1)))))) a_nil))))))))
def M_law_hand : Rho → FO := defM [] 2 1 B_law_hand
def st_law_take : Stmt := top 20
def B_law_take : SM :=
    (s_seq (s_if (t_and (t_bol (o2 o_eq (p_d (o2 o_ix (p_ow 0) (p_d (e_c (.int 1))))) (p_d (e_c (.int 1))))) (t_bol (o2 o_gt (p_d (o2 o_ix (p_ow 0) (p_d (e_c (.int 0))))) (p_d (e_c (.int 0)))))) (s_seq (s_set 3 (o2 o_mod (p_d (os f_int (a_cons (p_d (o2 o_ix (p_ow 0) (p_d (e_c (.int 0))))) a_nil))) (p_d (e_var 1))))
    (s_seq (s_put 0 (e_c (.int 0)) (o2 o_fdiv (p_d (o2 o_ix (p_ow 0) (p_d (e_c (.int 0))))) (p_d (e_var 1))))
    (s_ret (e_var 3)))) s_nil)
    (s_seq (s_put 0 (e_c (.int 2)) (o2 o_add (p_d (o2 o_ix (p_ow 0) (p_d (e_c (.int 2))))) (p_d (e_c (.int 1)))))
    (s_seq (s_set 2 (o2 o_mod (p_d (os f_int (a_cons (p_d (o2 o_add (p_d (o2 o_add (p_d (o2 o_mul (p_d (o2 o_ix (p_ow 0) (p_d (e_c (.int 3))))) (p_d (e_c (.int 48271))))) (p_d (o2 o_mul (p_d (o2 o_ix (p_ow 0) (p_d (e_c (.int 2))))) (p_d (e_c (.int 69621))))))) (p_d (e_c (.int 12289))))) a_nil))) (p_d (e_c (.int 2147483647)))))
    (s_seq (s_set 2 (o2 o_mod (p_d (os f_int (a_cons (p_d (o2 o_add (p_d (o2 o_add (p_d (o2 o_mul (p_d (e_var 2)) (p_d (e_var 2)))) (p_d (o2 o_mul (p_d (o2 o_ix (p_ow 0) (p_d (e_c (.int 2))))) (p_d (e_c (.int 3571))))))) (p_d (e_c (.int 40692))))) a_nil))) (p_d (e_c (.int 2147483399)))))
    (s_seq (s_set 2 (o2 o_mod (p_d (os f_int (a_cons (p_d (o2 o_add (p_d (o2 o_mul (p_d (e_var 2)) (p_d (e_var 2)))) (p_d (o2 o_fdiv (p_d (e_var 2)) (p_d (e_c (.int 97))))))) a_nil))) (p_d (e_c (.int 2147483629)))))
    (s_ret (o2 o_mod (p_d (os f_int (a_cons (p_d (o2 o_fdiv (p_d (e_var 2)) (p_d (e_c (.int 11))))) a_nil))) (p_d (e_var 1)))))))))
def M_law_take : Rho → FO := defM [0] 2 2 B_law_take
def st_law_some : Stmt := top 21
def B_law_some : SM :=
    (s_ret (e_lst (l_lc [3] (i_rng1 (a_cons (p_d (e_var 1)) a_nil)) (g_name 3) t_yes (e_call M_law_take (a_cons (p_ow 0) (a_cons (p_d (e_var 2)) a_nil))))))
def M_law_some : Rho → FO := defM [0] 3 1 B_law_some
def st_law_is_int : Stmt := top 22
def B_law_is_int : SM :=
    (s_ret (e_and (o1 (o_isi "int") (p_d (e_var 0))) (e_not (o1 (o_isi "bool") (p_d (e_var 0))))))
def M_law_is_int : Rho → FO := defM [] 1 0 B_law_is_int
def st_law_same : Stmt := top 23
def B_law_same (mrec : Rho → FO) : SM :=
    (s_seq (s_if (t_bol (o2 o_isN (p_d (e_var 1)) (p_d (e_c .non)))) (s_ret (o2 o_isN (p_d (e_var 0)) (p_d (e_c .non)))) s_nil)
    (s_seq (s_if (t_or (t_bol (o2 o_isB (p_d (e_var 1)) (p_d (e_c (.bl true))))) (t_bol (o2 o_isB (p_d (e_var 1)) (p_d (e_c (.bl false)))))) (s_ret (e_and (o1 (o_isi "bool") (p_d (e_var 0))) (o2 o_eq (p_d (e_var 0)) (p_d (e_var 1))))) s_nil)
    (s_seq (s_if (o1 tru (p_d (o1 (o_isi "int") (p_d (e_var 1))))) (s_ret (e_and (e_call M_law_is_int (a_cons (p_d (e_var 0)) a_nil)) (o2 o_eq (p_d (e_var 0)) (p_d (e_var 1))))) s_nil)
    (s_seq (s_if (o1 tru (p_d (o1 (o_isi "str") (p_d (e_var 1))))) (s_ret (e_and (o1 (o_isi "str") (p_d (e_var 0))) (o2 o_eq (p_d (e_var 0)) (p_d (e_var 1))))) s_nil)
    (s_seq (s_if (t_and (o1 tru (p_d (o1 (o_isi "tuple") (p_d (e_var 1))))) (t_not (o1 tru (p_d (o1 (o_isi "tuple") (p_d (e_var 0))))))) (s_ret (e_c (.bl false))) s_nil)
    (s_seq (s_if (t_and (o1 tru (p_d (o1 (o_isi "list") (p_d (e_var 1))))) (t_not (o1 tru (p_d (o1 (o_isi "list") (p_d (e_var 0))))))) (s_ret (e_c (.bl false))) s_nil)
    (s_seq (s_if (t_bol (o2 o_ne (p_d (os f_len (a_cons (p_d (e_var 0)) a_nil))) (p_d (os f_len (a_cons (p_d (e_var 1)) a_nil))))) (s_ret (e_c (.bl false))) s_nil)
    (s_seq (s_for (i_rng1 (a_cons (p_d (os f_len (a_cons (p_d (e_var 1)) a_nil))) a_nil)) (g_name 2) (s_if (t_not (o1 tru (p_d (e_call mrec (a_cons (p_d (o2 o_ix (p_d (e_var 0)) (p_d (e_var 2)))) (a_cons (p_d (o2 o_ix (p_d (e_var 1)) (p_d (e_var 2)))) a_nil)))))) (s_ret (e_c (.bl false))) s_nil))
    (s_ret (e_c (.bl true)))))))))))
def M_law_same : Nat → Rho → FO
  | 0 => fun _ => .bad
  | n + 1 => defM [] 2 1 (B_law_same (M_law_same n))
def st_law_stretch : Stmt := top 24
def B_law_stretch : SM :=
    (s_seq (s_set 2 (e_sm f_join (e_c (.str "")) (a_cons (p_d (e_lst (l_lc [3] (i_any (e_var 0)) (g_name 3) t_yes (os f_str (a_cons (p_d (e_var 3)) a_nil))))) a_nil)))
    (s_seq (s_if (t_bol (o2 o_gt (p_d (e_var 1)) (p_d (e_c (.int 1))))) (s_set 2 (o2 o_add (p_d (o2 o_add (p_d (os f_str (a_cons (p_d (e_var 1)) a_nil))) (p_d (e_c (.str "*"))))) (p_d (e_var 2)))) s_nil)
    (s_ret (e_var 2))))
def M_law_stretch : Rho → FO := defM [] 2 2 B_law_stretch
def st_law_written : Stmt := top 25
def B_law_written : SM :=
    (s_seq (s_own 1 (l_lst a_nil))
    (s_seq (s_set 2 (e_c .non))
    (s_seq (s_set 3 (e_c (.int 0)))
    (s_seq (s_for (i_any (e_var 0)) (g_name 4) (s_seq (s_if (t_and (t_bol (o2 o_notN (p_d (e_var 2)) (p_d (e_c .non)))) (t_bol (o2 o_ne (p_d (e_var 4)) (p_d (e_var 2))))) (s_seq (s_do (e_lm 1 f_append (a_cons (p_d (e_call M_law_stretch (a_cons (p_d (e_var 2)) (a_cons (p_d (e_var 3)) a_nil)))) a_nil)))
    (s_set 3 (e_c (.int 0)))) s_nil)
    (s_seq (s_set 2 (e_var 4))
    (s_set 3 (o2 o_add (p_d (e_var 3)) (p_d (e_c (.int 1))))))))
    (s_seq (s_if (t_bol (o2 o_notN (p_d (e_var 2)) (p_d (e_c .non)))) (s_do (e_lm 1 f_append (a_cons (p_d (e_call M_law_stretch (a_cons (p_d (e_var 2)) (a_cons (p_d (e_var 3)) a_nil)))) a_nil))) s_nil)
    (s_ret (e_sm f_join (e_c (.str " ")) (a_cons (p_ow 1) a_nil))))))))
def M_law_written : Rho → FO := defM [] 1 4 B_law_written
def st_law_count : Stmt := top 26
def B_law_count : SM :=
    (s_seq (s_if (t_or (t_bol (o2 o_lt (p_d (os f_len (a_cons (p_d (e_var 0)) a_nil))) (p_d (e_c (.int 1))))) (t_or (t_bol (o2 o_gt (p_d (os f_len (a_cons (p_d (e_var 0)) a_nil))) (p_d (e_c (.int 3))))) (t_bol (o2 o_eq (p_d (o2 o_ix (p_d (e_var 0)) (p_d (e_c (.int 0))))) (p_d (e_c (.str "0"))))))) (s_ret (e_c (.int 0))) s_nil)
    (s_seq (s_for (i_any (e_var 0)) (g_name 1) (s_if (t_bol (o2 o_nin (p_d (e_var 1)) (p_d (e_c (.str "0123456789"))))) (s_ret (e_c (.int 0))) s_nil))
    (s_ret (os f_int (a_cons (p_d (e_var 0)) a_nil)))))
def M_law_count : Rho → FO := defM [] 1 1 B_law_count
def st_law_digits : Stmt := top 27
def B_law_digits : SM :=
    (s_seq (s_if (t_bol (o2 o_ne (p_d (os f_len (a_cons (p_d (e_var 0)) a_nil))) (p_d (e_var 1)))) (s_ret (e_c .non)) s_nil)
    (s_seq (s_for (i_any (e_var 0)) (g_name 2) (s_if (t_bol (o2 o_nin (p_d (e_var 2)) (p_d (e_c (.str "012"))))) (s_ret (e_c .non)) s_nil))
    (s_ret (os f_tuple (a_cons (p_d (e_lst (l_lc [2] (i_any (e_var 0)) (g_name 2) t_yes (os f_int (a_cons (p_d (e_var 2)) a_nil))))) a_nil)))))
def M_law_digits : Rho → FO := defM [] 2 1 B_law_digits
def st_law_read : Stmt := top 28
def B_law_read : SM :=
    (s_seq (s_set 2 (e_lst (l_lst a_nil)))
    (s_seq (s_own 3 (l_lst a_nil))
    (s_seq (s_if (t_bol (o2 o_eq (p_d (e_var 0)) (p_d (e_c (.str ""))))) (s_ret (e_tup (a_cons (p_d (e_c (.str "row"))) (a_cons (p_d (e_var 2)) a_nil)))) s_nil)
    (s_seq (s_set 4 (e_sm f_split (e_var 0) (a_cons (p_d (e_c (.str " "))) a_nil)))
    (s_seq (s_for (i_rng1 (a_cons (p_d (os f_len (a_cons (p_d (e_var 4)) a_nil))) a_nil)) (g_name 5) (s_seq (s_set 6 (o2 o_ix (p_d (e_var 4)) (p_d (e_var 5))))
    (s_seq (s_set 7 (e_c (.int 1)))
    (s_seq (s_set 8 (e_sm f_find (e_var 6) (a_cons (p_d (e_c (.str "*"))) a_nil)))
    (s_seq (s_if (t_bol (o2 o_ge (p_d (e_var 8)) (p_d (e_c (.int 0))))) (s_set 7 (e_call M_law_count (a_cons (p_d (e_slice (p_d (e_var 6)) p_no (p_at (e_var 8)))) a_nil))) s_nil)
    (s_if (t_bol (o2 o_eq (p_d (e_var 6)) (p_d (e_c (.str ")"))))) (s_seq (s_if (t_bol (o2 o_eq (p_d (os f_len (a_cons (p_ow 3) a_nil))) (p_d (e_c (.int 0))))) (s_ret (e_tup (a_cons (p_d (e_c (.str "bad"))) (a_cons (p_d (e_var 5)) a_nil)))) s_nil)
    (s_seq (s_set 9 (lmAt 3 f_pop []))
    (s_seq (s_set 10 (e_slice (p_d (e_var 2)) (p_at (o2 o_ix (p_d (e_var 9)) (p_d (e_c (.int 0))))) p_no))
    (s_seq (s_if (t_bol (o2 o_gt (p_d (o2 o_add (p_d (o2 o_ix (p_d (e_var 9)) (p_d (e_c (.int 0))))) (p_d (o2 o_mul (p_d (os f_len (a_cons (p_d (e_var 10)) a_nil))) (p_d (o2 o_ix (p_d (e_var 9)) (p_d (e_c (.int 1))))))))) (p_d (e_c (.int 1000))))) (s_ret (e_tup (a_cons (p_d (e_c (.str "bad"))) (a_cons (p_d (e_var 5)) a_nil)))) s_nil)
    (s_set 2 (o2 o_add (p_d (e_slice (p_d (e_var 2)) p_no (p_at (o2 o_ix (p_d (e_var 9)) (p_d (e_c (.int 0))))))) (p_d (o2 o_mul (p_d (e_var 10)) (p_d (o2 o_ix (p_d (e_var 9)) (p_d (e_c (.int 1))))))))))))) (s_if (t_bol (o2 o_eq (p_d (e_var 7)) (p_d (e_c (.int 0))))) (s_ret (e_tup (a_cons (p_d (e_c (.str "bad"))) (a_cons (p_d (e_var 5)) a_nil)))) (s_if (t_and (t_bol (o2 o_ge (p_d (e_var 8)) (p_d (e_c (.int 0))))) (t_bol (o2 o_eq (p_d (e_slice (p_d (e_var 6)) (p_at (o2 o_add (p_d (e_var 8)) (p_d (e_c (.int 1))))) p_no)) (p_d (e_c (.str "(")))))) (s_seq (s_if (t_bol (o2 o_eq (p_d (os f_len (a_cons (p_ow 3) a_nil))) (p_d (e_c (.int 4))))) (s_ret (e_tup (a_cons (p_d (e_c (.str "bad"))) (a_cons (p_d (e_var 5)) a_nil)))) s_nil)
    (s_do (e_lm 3 f_append (a_cons (p_d (e_tup (a_cons (p_d (os f_len (a_cons (p_d (e_var 2)) a_nil))) (a_cons (p_d (e_var 7)) a_nil)))) a_nil)))) (s_seq (s_set 11 (e_call M_law_digits (a_cons (p_d (e_slice (p_d (e_var 6)) (p_at (o2 o_add (p_d (e_var 8)) (p_d (e_c (.int 1))))) p_no)) (a_cons (p_d (e_var 1)) a_nil))))
    (s_seq (s_if (t_or (t_bol (o2 o_isN (p_d (e_var 11)) (p_d (e_c .non)))) (t_bol (o2 o_gt (p_d (o2 o_add (p_d (os f_len (a_cons (p_d (e_var 2)) a_nil))) (p_d (e_var 7)))) (p_d (e_c (.int 1000)))))) (s_ret (e_tup (a_cons (p_d (e_c (.str "bad"))) (a_cons (p_d (e_var 5)) a_nil)))) s_nil)
    (s_set 2 (o2 o_add (p_d (e_var 2)) (p_d (o2 o_mul (p_d (e_lst (l_lst (a_cons (p_d (e_var 11)) a_nil)))) (p_d (e_var 7))))))))))))))))
    (s_seq (s_if (t_bol (o2 o_gt (p_d (os f_len (a_cons (p_ow 3) a_nil))) (p_d (e_c (.int 0))))) (s_ret (e_tup (a_cons (p_d (e_c (.str "bad"))) (a_cons (p_d (os f_len (a_cons (p_d (e_var 4)) a_nil))) a_nil)))) s_nil)
    (s_ret (e_tup (a_cons (p_d (e_c (.str "row"))) (a_cons (p_d (e_var 2)) a_nil))))))))))
def M_law_read : Rho → FO := defM [] 2 10 B_law_read
def st_law_row : Stmt := top 29
def B_law_row : SM :=
    (s_seq (s_set 2 (e_lst (l_lst a_nil)))
    (s_seq (s_set 3 (os f_tuple (a_cons (p_d (o2 o_mul (p_d (e_lst (l_lst (a_cons (p_d (e_c (.int 0))) a_nil)))) (p_d (e_var 1)))) a_nil)))
    (s_seq (s_for (i_rng1 (a_cons (p_d (e_call M_law_take (a_cons (p_ow 0) (a_cons (p_d (e_c (.int 9))) a_nil)))) a_nil)) (g_name 4) (s_seq (s_if (t_bol (o2 o_gt (p_d (e_call M_law_take (a_cons (p_ow 0) (a_cons (p_d (e_c (.int 4))) a_nil)))) (p_d (e_c (.int 0))))) (s_set 3 (os f_tuple (a_cons (p_d (e_call M_law_some (a_cons (p_ow 0) (a_cons (p_d (e_var 1)) (a_cons (p_d (e_c (.int 3))) a_nil))))) a_nil))) s_nil)
    (s_seq (s_set 5 (o2 o_add (p_d (e_c (.int 1))) (p_d (e_call M_law_take (a_cons (p_ow 0) (a_cons (p_d (e_c (.int 3))) a_nil))))))
    (s_seq (s_if (t_and (t_bol (o2 o_lt (p_d (e_var 1)) (p_d (e_c (.int 5))))) (t_and (t_bol (o2 o_lt (p_d (os f_len (a_cons (p_d (e_var 2)) a_nil))) (p_d (e_c (.int 600))))) (t_bol (o2 o_eq (p_d (e_call M_law_take (a_cons (p_ow 0) (a_cons (p_d (e_c (.int 20))) a_nil)))) (p_d (e_c (.int 0))))))) (s_set 5 (o2 o_ix (p_d (e_lst (l_lst (a_cons (p_d (e_c (.int 498))) (a_cons (p_d (e_c (.int 499))) (a_cons (p_d (e_c (.int 500))) (a_cons (p_d (e_c (.int 501))) (a_cons (p_d (e_c (.int 502))) (a_cons (p_d (e_c (.int 997))) (a_cons (p_d (e_c (.int 998))) (a_cons (p_d (e_c (.int 999))) (a_cons (p_d (e_c (.int 1000))) (a_cons (p_d (e_c (.int 1001))) a_nil))))))))))))) (p_d (e_call M_law_take (a_cons (p_ow 0) (a_cons (p_d (e_c (.int 10))) a_nil)))))) s_nil)
    (s_set 2 (o2 o_add (p_d (e_var 2)) (p_d (o2 o_mul (p_d (e_lst (l_lst (a_cons (p_d (e_var 3)) a_nil)))) (p_d (e_var 5))))))))))
    (s_ret (e_var 2)))))
def M_law_row : Rho → FO := defM [0] 2 4 B_law_row
def st_law_plain_word : Stmt := top 30
def B_law_plain_word : SM :=
    (s_ret (e_sm f_join (e_c (.str "")) (a_cons (p_d (e_lst (l_lc [2] (i_any (e_call M_law_some (a_cons (p_ow 0) (a_cons (p_d (e_var 1)) (a_cons (p_d (e_c (.int 3))) a_nil))))) (g_name 2) t_yes (os f_str (a_cons (p_d (e_var 2)) a_nil))))) a_nil)))
def M_law_plain_word : Rho → FO := defM [0] 2 1 B_law_plain_word
def st_law_number_word : Stmt := top 31
def B_law_number_word : SM :=
    (s_seq (s_set 1 (e_call M_law_take (a_cons (p_ow 0) (a_cons (p_d (e_c (.int 10))) a_nil))))
    (s_seq (s_if (t_bol (o2 o_lt (p_d (e_var 1)) (p_d (e_c (.int 5))))) (s_ret (os f_str (a_cons (p_d (o2 o_add (p_d (e_c (.int 1))) (p_d (e_call M_law_take (a_cons (p_ow 0) (a_cons (p_d (e_c (.int 3))) a_nil)))))) a_nil))) s_nil)
    (s_seq (s_if (t_bol (o2 o_lt (p_d (e_var 1)) (p_d (e_c (.int 8))))) (s_ret (os f_str (a_cons (p_d (o2 o_add (p_d (e_c (.int 1))) (p_d (e_call M_law_take (a_cons (p_ow 0) (a_cons (p_d (e_c (.int 12))) a_nil)))))) a_nil))) s_nil)
    (s_seq (s_if (t_bol (o2 o_eq (p_d (e_var 1)) (p_d (e_c (.int 8))))) (s_ret (os f_str (a_cons (p_d (e_call M_law_take (a_cons (p_ow 0) (a_cons (p_d (e_c (.int 1003))) a_nil)))) a_nil))) s_nil)
    (s_ret (o2 o_ix (p_d (e_lst (l_lst (a_cons (p_d (e_c (.str ""))) (a_cons (p_d (e_c (.str "0"))) (a_cons (p_d (e_c (.str "00"))) (a_cons (p_d (e_c (.str "007"))) (a_cons (p_d (e_c (.str "01"))) (a_cons (p_d (e_c (.str "1000"))) (a_cons (p_d (e_c (.str "+1"))) (a_cons (p_d (e_c (.str "1a"))) (a_cons (p_d (e_c (.str "-1"))) (a_cons (p_d (e_c (.str "a"))) a_nil))))))))))))) (p_d (e_call M_law_take (a_cons (p_ow 0) (a_cons (p_d (e_c (.int 10))) a_nil))))))))))
def M_law_number_word : Rho → FO := defM [0] 1 1 B_law_number_word
def st_law_word : Stmt := top 32
def B_law_word : SM :=
    (s_seq (s_set 2 (e_call M_law_take (a_cons (p_ow 0) (a_cons (p_d (e_c (.int 12))) a_nil))))
    (s_seq (s_if (t_bol (o2 o_lt (p_d (e_var 2)) (p_d (e_c (.int 2))))) (s_ret (e_c (.str ")"))) s_nil)
    (s_seq (s_if (t_bol (o2 o_lt (p_d (e_var 2)) (p_d (e_c (.int 4))))) (s_ret (o2 o_add (p_d (e_call M_law_number_word (a_cons (p_ow 0) a_nil))) (p_d (e_c (.str "*("))))) s_nil)
    (s_seq (s_set 3 (e_call M_law_plain_word (a_cons (p_ow 0) (a_cons (p_d (e_var 1)) a_nil))))
    (s_seq (s_if (t_bol (o2 o_lt (p_d (e_var 2)) (p_d (e_c (.int 8))))) (s_ret (e_var 3)) s_nil)
    (s_seq (s_if (t_bol (o2 o_lt (p_d (e_var 2)) (p_d (e_c (.int 10))))) (s_ret (o2 o_add (p_d (o2 o_add (p_d (e_call M_law_number_word (a_cons (p_ow 0) a_nil))) (p_d (e_c (.str "*"))))) (p_d (e_var 3)))) s_nil)
    (s_seq (s_if (t_bol (o2 o_eq (p_d (e_var 2)) (p_d (e_c (.int 10))))) (s_ret (o2 o_add (p_d (e_var 3)) (p_d (o2 o_ix (p_d (e_lst (l_lst (a_cons (p_d (e_c (.str "0"))) (a_cons (p_d (e_c (.str "3"))) (a_cons (p_d (e_c (.str "a"))) (a_cons (p_d (e_c (.str "*"))) (a_cons (p_d (e_c (.str "("))) (a_cons (p_d (e_c (.str ")"))) a_nil))))))))) (p_d (e_call M_law_take (a_cons (p_ow 0) (a_cons (p_d (e_c (.int 6))) a_nil)))))))) s_nil)
    (s_seq (s_set 4 (e_lst (l_lst (a_cons (p_d (e_c (.str ""))) (a_cons (p_d (e_c (.str "("))) (a_cons (p_d (e_c (.str "*"))) (a_cons (p_d (e_c (.str "2*"))) (a_cons (p_d (e_c (.str "2*)"))) (a_cons (p_d (e_c (.str "*("))) (a_cons (p_d (o2 o_add (p_d (e_c (.str "2*2*"))) (p_d (e_var 3)))) (a_cons (p_d (o2 o_add (p_d (e_c (.str "1*("))) (p_d (e_var 3)))) (a_cons (p_d (e_slice (p_d (e_var 3)) (p_at (e_c (.int 1))) p_no)) (a_cons (p_d (o2 o_add (p_d (e_c (.str "3"))) (p_d (e_slice (p_d (e_var 3)) (p_at (e_c (.int 1))) p_no)))) (a_cons (p_d (o2 o_add (p_d (e_c (.str "*"))) (p_d (e_var 3)))) (a_cons (p_d (e_c (.str "))"))) a_nil)))))))))))))))
    (s_ret (o2 o_ix (p_d (e_var 4)) (p_d (e_call M_law_take (a_cons (p_ow 0) (a_cons (p_d (e_c (.int 12))) a_nil))))))))))))))
def M_law_word : Rho → FO := defM [0] 2 3 B_law_word
def st_law_nest : Stmt := top 33
def B_law_nest : SM :=
    (s_seq (s_own 2 (l_lst a_nil))
    (s_seq (s_set 3 (e_call M_law_take (a_cons (p_ow 0) (a_cons (p_d (e_c (.int 7))) a_nil))))
    (s_seq (s_for (i_rng1 (a_cons (p_d (e_var 3)) a_nil)) (g_name 4) (s_seq (s_do (e_lm 2 f_append (a_cons (p_d (o2 o_add (p_d (os f_str (a_cons (p_d (o2 o_add (p_d (e_c (.int 1))) (p_d (e_call M_law_take (a_cons (p_ow 0) (a_cons (p_d (e_c (.int 4))) a_nil)))))) a_nil))) (p_d (e_c (.str "*("))))) a_nil)))
    (s_if (t_bol (o2 o_eq (p_d (e_call M_law_take (a_cons (p_ow 0) (a_cons (p_d (e_c (.int 3))) a_nil)))) (p_d (e_c (.int 0))))) (s_do (e_lm 2 f_append (a_cons (p_d (e_call M_law_plain_word (a_cons (p_ow 0) (a_cons (p_d (e_var 1)) a_nil)))) a_nil))) s_nil)))
    (s_seq (s_own 2 (o2 l_add (p_ow 2) (p_d (e_lst (l_lc [4] (i_rng1 (a_cons (p_d (e_call M_law_take (a_cons (p_ow 0) (a_cons (p_d (e_c (.int 3))) a_nil)))) a_nil)) (g_name 4) t_yes (e_call M_law_word (a_cons (p_ow 0) (a_cons (p_d (e_var 1)) a_nil))))))))
    (s_seq (s_for (i_rng1 (a_cons (p_d (os f_max (a_cons (p_d (e_c (.int 0))) (a_cons (p_d (o2 o_add (p_d (o2 o_sub (p_d (e_var 3)) (p_d (e_c (.int 1))))) (p_d (e_call M_law_take (a_cons (p_ow 0) (a_cons (p_d (e_c (.int 3))) a_nil)))))) a_nil)))) a_nil)) (g_name 4) (s_seq (s_do (e_lm 2 f_append (a_cons (p_d (e_c (.str ")"))) a_nil)))
    (s_if (t_bol (o2 o_eq (p_d (e_call M_law_take (a_cons (p_ow 0) (a_cons (p_d (e_c (.int 3))) a_nil)))) (p_d (e_c (.int 0))))) (s_do (e_lm 2 f_append (a_cons (p_d (e_call M_law_plain_word (a_cons (p_ow 0) (a_cons (p_d (e_var 1)) a_nil)))) a_nil))) s_nil)))
    (s_ret (e_frz 2)))))))
def M_law_nest : Rho → FO := defM [0] 2 3 B_law_nest
def st_law_edge : Stmt := top 34
def B_law_edge : SM :=
    (s_seq (s_set 2 (e_call M_law_plain_word (a_cons (p_ow 0) (a_cons (p_d (e_var 1)) a_nil))))
    (s_seq (s_set 3 (o2 o_add (p_d (e_c (.int 1))) (p_d (e_call M_law_take (a_cons (p_ow 0) (a_cons (p_d (e_c (.int 4))) a_nil))))))
    (s_seq (s_set 4 (e_lst (l_lst (a_cons (p_d (o2 o_add (p_d (os f_str (a_cons (p_d (e_var 3)) a_nil))) (p_d (e_c (.str "*("))))) (a_cons (p_d (o2 o_add (p_d (o2 o_add (p_d (os f_str (a_cons (p_d (o2 o_add (p_d (o2 o_sub (p_d (o2 o_fdiv (p_d (e_c (.int 1000))) (p_d (e_var 3)))) (p_d (e_c (.int 1))))) (p_d (e_call M_law_take (a_cons (p_ow 0) (a_cons (p_d (e_c (.int 3))) a_nil)))))) a_nil))) (p_d (e_c (.str "*"))))) (p_d (e_var 2)))) (a_cons (p_d (e_c (.str ")"))) a_nil))))))
    (s_seq (s_if (t_bol (o2 o_eq (p_d (e_call M_law_take (a_cons (p_ow 0) (a_cons (p_d (e_c (.int 2))) a_nil)))) (p_d (e_c (.int 1))))) (s_set 4 (o2 o_add (p_d (e_lst (l_lst (a_cons (p_d (e_var 2)) a_nil)))) (p_d (e_var 4)))) s_nil)
    (s_seq (s_if (t_bol (o2 o_eq (p_d (e_call M_law_take (a_cons (p_ow 0) (a_cons (p_d (e_c (.int 2))) a_nil)))) (p_d (e_c (.int 1))))) (s_set 4 (o2 o_add (p_d (e_var 4)) (p_d (e_lst (l_lst (a_cons (p_d (e_var 2)) a_nil)))))) s_nil)
    (s_ret (e_var 4)))))))
def M_law_edge : Rho → FO := defM [0] 2 3 B_law_edge
def st_law_sign : Stmt := top 35
def B_law_sign : SM :=
    (s_seq (s_set 1 (e_call M_law_take (a_cons (p_ow 0) (a_cons (p_d (e_c (.int 20))) a_nil))))
    (s_seq (s_if (t_bol (o2 o_lt (p_d (e_var 1)) (p_d (e_c (.int 19))))) (s_ret (o2 o_ix (p_d (e_c (.str " 0012*()*)( 9 21*()"))) (p_d (e_var 1)))) s_nil)
    (s_seq (s_set 2 (e_c (.str " !\"#$&'()*+,-./0123456789:;<=>?@ABCDEFGHIJKLMNOPQRSTUVWXYZ[\\]^_")))
    (s_seq (s_set 2 (o2 o_add (p_d (e_var 2)) (p_d (e_c (.str "`abcdefghijklmnopqrstuvwxyz{|}~")))))
    (s_ret (o2 o_ix (p_d (e_var 2)) (p_d (e_call M_law_take (a_cons (p_ow 0) (a_cons (p_d (os f_len (a_cons (p_d (e_var 2)) a_nil))) a_nil))))))))))
def M_law_sign : Rho → FO := defM [0] 1 2 B_law_sign
def st_law_text : Stmt := top 36
def B_law_text : SM :=
    (s_seq (s_set 3 (e_call M_law_take (a_cons (p_ow 0) (a_cons (p_d (e_c (.int 6))) a_nil))))
    (s_seq (s_if (t_bol (o2 o_eq (p_d (e_var 3)) (p_d (e_c (.int 0))))) (s_ret (e_sm f_join (e_c (.str "")) (a_cons (p_d (e_lst (l_lc [6] (i_rng1 (a_cons (p_d (e_call M_law_take (a_cons (p_ow 0) (a_cons (p_d (e_c (.int 41))) a_nil)))) a_nil)) (g_name 6) t_yes (e_call M_law_sign (a_cons (p_ow 0) a_nil))))) a_nil))) s_nil)
    (s_seq (s_if (t_bol (o2 o_eq (p_d (e_var 3)) (p_d (e_c (.int 1))))) (s_ret (e_sm f_join (e_c (.str " ")) (a_cons (p_d (e_call M_law_nest (a_cons (p_ow 0) (a_cons (p_d (e_var 1)) a_nil)))) a_nil))) s_nil)
    (s_seq (s_if (t_bol (o2 o_eq (p_d (e_var 3)) (p_d (e_c (.int 2))))) (s_ret (e_sm f_join (e_c (.str " ")) (a_cons (p_d (e_call M_law_edge (a_cons (p_ow 0) (a_cons (p_d (e_var 1)) a_nil)))) a_nil))) s_nil)
    (s_seq (s_if (t_bol (o2 o_eq (p_d (e_var 3)) (p_d (e_c (.int 3))))) (s_seq (s_set 4 (e_sm f_split (e_call M_law_written (a_cons (p_d (e_var 2)) a_nil)) (a_cons (p_d (e_c (.str " "))) a_nil)))
    (s_seq (s_set 5 (e_call M_law_take (a_cons (p_ow 0) (a_cons (p_d (o2 o_add (p_d (os f_len (a_cons (p_d (e_var 4)) a_nil))) (p_d (e_c (.int 1))))) a_nil))))
    (s_ret (e_sm f_join (e_c (.str " ")) (a_cons (p_d (o2 o_add (p_d (o2 o_add (p_d (e_slice (p_d (e_var 4)) p_no (p_at (e_var 5)))) (p_d (e_lst (l_lst (a_cons (p_d (e_call M_law_word (a_cons (p_ow 0) (a_cons (p_d (e_var 1)) a_nil)))) a_nil)))))) (p_d (e_slice (p_d (e_var 4)) (p_at (e_var 5)) p_no)))) a_nil))))) s_nil)
    (s_ret (e_sm f_join (e_c (.str " ")) (a_cons (p_d (e_lst (l_lc [6] (i_rng1 (a_cons (p_d (e_call M_law_take (a_cons (p_ow 0) (a_cons (p_d (e_c (.int 12))) a_nil)))) a_nil)) (g_name 6) t_yes (e_call M_law_word (a_cons (p_ow 0) (a_cons (p_d (e_var 1)) a_nil)))))) a_nil))))))))
def M_law_text : Rho → FO := defM [0] 3 4 B_law_text
def st_law_asked : Stmt := top 37
def B_law_asked : SM :=
    (s_seq (s_tryAs hit_BadWord 3 (s_setV 2 (v_tup (vs_cons (v_fz (e_c (.str "row"))) (vs_cons (v_call M_read_row (a_cons (p_d (e_var 0)) (a_cons (p_d (e_var 1)) a_nil))) (vs_cons (v_fz (e_c (.bl true))) vs_nil))))) (s_setV 2 (v_fz (e_tup (a_cons (p_d (e_c (.str "bad"))) (a_cons (p_d (e_xf 2 3 0)) (a_cons (p_d (e_and (e_xis xis_BadWord_ValueError 3) (e_not (e_xis xis_BadWord_BadLine 3)))) a_nil)))))))
    (s_retV (v_take 2)))
def M_law_asked : Rho → FO := defM [] 2 2 B_law_asked
def st_law_base_told : Stmt := top 38
def B_law_base_told : SM :=
    (s_seq (s_set 2 (e_c (.bl false)))
    (s_seq (s_tryAs hit_LightsError 3 (s_doV (v_call M_read_row (a_cons (p_d (e_var 0)) (a_cons (p_d (e_var 1)) a_nil)))) (s_set 2 (e_xis xis_LightsError_ValueError 3)))
    (s_ret (e_var 2))))
def M_law_base_told : Rho → FO := defM [] 2 2 B_law_base_told
def st_law_read_right : Stmt := top 39
def B_law_read_right : SM :=
    (s_seq (s_set 2 (e_call M_law_read (a_cons (p_d (e_var 0)) (a_cons (p_d (e_var 1)) a_nil))))
    (s_seq (s_setV 3 (v_call M_law_asked (a_cons (p_d (e_var 0)) (a_cons (p_d (e_var 1)) a_nil))))
    (s_seq (s_if (t_bor fl (t_or (t_bol (o2 o_ne (p_d (o2 o_ix (p_d (e_var 3)) (p_d (e_c (.int 0))))) (p_d (o2 o_ix (p_d (e_var 2)) (p_d (e_c (.int 0))))))) (t_or (t_not (o1 tru (p_d (o2 o_ix (p_d (e_var 3)) (p_d (e_c (.int 2))))))) (t_not (o1 tru (p_d (e_call (M_law_same 6) (a_cons (p_d (o2 o_ix (p_d (e_var 3)) (p_d (e_c (.int 1))))) (a_cons (p_d (o2 o_ix (p_d (e_var 2)) (p_d (e_c (.int 1))))) a_nil))))))))) (s_ret (e_c (.bl false))) s_nil)
    (s_seq (s_if (t_bol (o2 o_eq (p_d (o2 o_ix (p_d (e_var 2)) (p_d (e_c (.int 0))))) (p_d (e_c (.str "bad"))))) (s_ret (e_call M_law_base_told (a_cons (p_d (e_var 0)) (a_cons (p_d (e_var 1)) a_nil)))) s_nil)
    (s_seq (s_do (e_pm (pl_ix (1) (pl_var 3)) g_append (a_cons (p_d (os f_tuple (a_cons (p_d (o2 o_mul (p_d (e_lst (l_lst (a_cons (p_d (e_c (.int 2))) a_nil)))) (p_d (e_var 1)))) a_nil))) a_nil)))
    (s_seq (s_set 4 (e_frzV fl (v_call M_law_asked (a_cons (p_d (e_var 0)) (a_cons (p_d (e_var 1)) a_nil)))))
    (s_ret (e_bor fl (e_and (o2 o_eq (p_d (o2 o_ix (p_d (e_var 4)) (p_d (e_c (.int 0))))) (p_d (e_c (.str "row")))) (e_and (o2 o_eq (p_d (o2 o_ix (p_d (e_var 4)) (p_d (e_c (.int 1))))) (p_d (o2 o_ix (p_d (e_var 2)) (p_d (e_c (.int 1)))))) (o2 o_eq (p_d (os f_len (a_cons (p_d (o2 o_ix (p_d (e_var 3)) (p_d (e_c (.int 1))))) a_nil))) (p_d (o2 o_add (p_d (os f_len (a_cons (p_d (o2 o_ix (p_d (e_var 2)) (p_d (e_c (.int 1))))) a_nil))) (p_d (e_c (.int 1))))))))))))))))
def M_law_read_right : Rho → FO := defM [] 2 3 B_law_read_right
def st_law_written_right : Stmt := top 40
def B_law_written_right : SM :=
    (s_seq (s_own 1 (os f_list (a_cons (p_d (e_var 0)) a_nil)))
    (s_seq (s_set 2 (e_call M_law_written (a_cons (p_d (e_var 0)) a_nil)))
    (s_seq (s_if (t_bor fl (t_or (t_not (o1 tru (p_d (e_call (M_law_same 6) (a_cons (p_d (e_call M_row_text (a_cons (p_d (e_var 1)) a_nil))) (a_cons (p_d (e_var 2)) a_nil)))))) (t_bol (o2 o_ne (p_d (e_var 1)) (p_d (e_var 0)))))) (s_ret (e_c (.bl false))) s_nil)
    (s_seq (s_do (e_lm 1 f_append (a_cons (p_d (os f_tuple (a_cons (p_d (o2 o_mul (p_d (e_lst (l_lst (a_cons (p_d (e_c (.int 1))) a_nil)))) (p_d (e_c (.int 3))))) a_nil))) a_nil)))
    (s_ret (o2 o_eq (p_d (e_call M_row_text (a_cons (p_d (os f_tuple (a_cons (p_d (e_var 0)) a_nil))) a_nil))) (p_d (e_var 2))))))))
def M_law_written_right : Rho → FO := defM [] 1 2 B_law_written_right
def st_law : Stmt := top 41
def B_law : SM :=
    (s_seq (s_own 1 (l_call M_law_hand (a_cons (p_d (e_var 0)) (a_cons (p_d (e_c (.int 0))) a_nil))))
    (s_seq (s_set 2 (o2 o_add (p_d (e_c (.int 1))) (p_d (e_call M_law_take (a_cons (p_ow 1) (a_cons (p_d (e_c (.int 4))) a_nil))))))
    (s_seq (s_if (t_bol (o2 o_eq (p_d (e_call M_law_take (a_cons (p_ow 1) (a_cons (p_d (e_c (.int 8))) a_nil)))) (p_d (e_c (.int 0))))) (s_set 2 (o2 o_add (p_d (e_c (.int 1))) (p_d (e_call M_law_take (a_cons (p_ow 1) (a_cons (p_d (e_c (.int 24))) a_nil)))))) s_nil)
    (s_seq (s_set 3 (e_call M_law_row (a_cons (p_ow 1) (a_cons (p_d (e_var 2)) a_nil))))
    (s_seq (s_if (t_or (t_not (o1 tru (p_d (e_call M_law_written_right (a_cons (p_d (e_var 3)) a_nil))))) (t_not (o1 tru (p_d (e_call M_law_read_right (a_cons (p_d (e_call M_law_written (a_cons (p_d (e_var 3)) a_nil))) (a_cons (p_d (e_var 2)) a_nil))))))) (s_ret (e_c (.bl false))) s_nil)
    (s_ret (e_call M_law_read_right (a_cons (p_d (e_ofV (v_callV M_law_text (v_call M_law_hand (a_cons (p_d (e_var 0)) (a_cons (p_d (e_c (.int 1))) a_nil))) (a_cons (p_d (e_var 2)) (a_cons (p_d (e_var 3)) a_nil))))) (a_cons (p_d (e_var 2)) a_nil)))))))))
def M_law : Rho → FO := defM [] 1 3 B_law
/-- what the top has written -/
structure Nt (P : Program) (w : World) (K : PySem.W.Frag) (mg : Str → Option Value) (cls : Nat → Addr) : Prop where
  b_ValueError : mg "ValueError" = none
  b_abs : mg "abs" = none
  b_bool : mg "bool" = none
  b_enumerate : mg "enumerate" = none
  b_int : mg "int" = none
  b_isinstance : mg "isinstance" = none
  b_len : mg "len" = none
  b_list : mg "list" = none
  b_max : mg "max" = none
  b_min : mg "min" = none
  b_range : mg "range" = none
  b_str : mg "str" = none
  b_sum : mg "sum" = none
  b_tuple : mg "tuple" = none
  k_BadLine : mg "BadLine" = some (.ref (cls 3))
  k_BadWord : mg "BadWord" = some (.ref (cls 2))
  k_LightsError : mg "LightsError" = some (.ref (cls 1))
  cl_RowReader : Cls K (cls 4)
  no_RowReader_parts : NoAttr K (cls 4) "parts"
  no_RowReader_times : NoAttr K (cls 4) "times"
  g_DIGITS : ∃ t, mg "DIGITS" = some (.str "0123456789" t)
  g_KINDS : ∃ t, mg "KINDS" = some (.str "012" t)
  g_MOST_COMINGS : ∃ t, mg "MOST_COMINGS" = some (.int 1000 t)
  g_MOST_GROUPS : ∃ t, mg "MOST_GROUPS" = some (.int 4 t)
  x_BadWord : Ex1 P w K mg (tab cls) "BadWord" 2 "place"
  t_BadWord : ∀ c b, hit_BadWord c = some b → PySem.W.exmOne K (.ref (cls c)) (.ref (cls 2)) = some b
  t_LightsError : ∀ c b, hit_LightsError c = some b → PySem.W.exmOne K (.ref (cls c)) (.ref (cls 1)) = some b
  xc_BadWord : XfC K (cls 2)
  no_BadWord_place : PySem.W.findIn K (.ref (cls 2)) "place" = some none
  h_xis_BadWord_BadLine : ∀ c b, xis_BadWord_BadLine c = some b → XisC K (cls c) (.ref (cls 3)) b
  h_xis_BadWord_ValueError : ∀ c b, xis_BadWord_ValueError c = some b → XisC K (cls c) (.type "ValueError") b
  h_xis_LightsError_ValueError : ∀ c b, xis_LightsError_ValueError c = some b → XisC K (cls c) (.type "ValueError") b
section
variable {P : Program} {w : World} {K : PySem.W.Frag} {mg : Str → Option Value} {base : Heap} {cls : Nat → Addr}
theorem ok_number_of {f : Addr} {fd : FuncData} (N : Nt P w K mg cls)  (hf : Fun K "number_of" "number_of" st_number_of f fd) : FnOk P w K mg base (L2.CX P w) 1 f fd ["word"] (spM K (tab cls) M_number_of) := by
  have S : FnScope ["word", "sign"] ["word"] (defScope st_number_of) := ⟨rfl, rfl, rfl, by decide +kernel, rfl, by decide +kernel, by decide +kernel⟩
  refine fn_ml (k := 0) hf S rfl fun cdv A outer s H E F hr hF => ?_
  exact (ms_cons (ms_if (mw_or (mt_not (mt_chain op_le op_le m_icmp m_icmp.op (mp_d me_int) (mp_d (me_blt call_len m_len N.b_len bt_len (ma_cons (mp_d (me_pv 0 (pv 0))) ma_nil))) (mp_d me_int))) (mw_or1 (mw_and (mt_cmp (op_eqA hr) m_eq.op (mp_d (me_sub ix_seq m_ix (mp_d (me_pv 0 (pv 0))) (mp_d me_int))) (mp_d me_str)) (mw_and1 (mt_cmp (op_neA hr) m_ne.op (mp_d (me_pv 0 (pv 0))) (mp_d me_str)))).pt)).pt (ms_one (ms_ret me_non)) ms_nil)
    (ms_cons (ms_for (vs := [1]) hF (passes_of rfl) rfl (mi_any (me_pv 0 (pv 0))) (mg_name 1 S.nd) (ms_one (ms_if (mt_cmp op_ninA m_nin.op (mp_d (me_pv 1 (pv 1))) (mp_d (me_gstr N.g_DIGITS))) (ms_one (ms_ret me_non)) ms_nil)))
    (ms_one (ms_ret (me_typ call_intA m_int N.b_int bt_int (ma_cons (mp_d (me_pv 0 (pv 0))) ma_nil))))))
theorem ok_comings_word {f : Addr} {fd : FuncData} (N : Nt P w K mg cls)  (hf : Fun K "comings_word" "comings_word" st_comings_word f fd) : FnOk P w K mg base (L2.CX P w) 1 f fd ["comings", "many"] (spM K (tab cls) M_comings_word) := by
  have S : FnScope ["comings", "many", "word", "number"] ["comings", "many"] (defScope st_comings_word) := ⟨rfl, rfl, rfl, by decide +kernel, rfl, by decide +kernel, by decide +kernel⟩
  refine fn_ml (k := 0) hf S rfl fun cdv A outer s H E F hr hF => ?_
  exact (ms_cons (ms_set hF 2 (me_sm PySem.F.slot_str_join PySem.F.type_str_join mt_join m_join me_str (ma_cons (mp_d (me_lof (ml_lc hF [("number", 3)] rfl S.nd (mi_any (me_pv 0 (pv 0))) (blkOk_by (N := ["comings", "many", "word", "number"]) (sc := defScope st_comings_word) (by decide +kernel)) (fun s H C cl fp => (mg_name 3 S.nd)) (fun F s H C cl fp => mts_nil) (fun F s H C cl fp => (me_typ call_str_int m_str N.b_str bt_str (ma_cons (mp_d (me_pv 3 (pv 3))) ma_nil))) (s0 := s)))) ma_nil)) S.nd)
    (ms_cons (ms_if (mt_cmp (op_eqA hr) m_eq.op (mp_d (me_pv 1 (pv 1))) (mp_d me_int)) (ms_one (ms_ret (me_pv 2 (pv 2)))) ms_nil)
    (ms_one (ms_ret (me_jn (.cons (me_fmt (me_pv 1 (pv 1))) (.cons me_str (.cons (me_fmt (me_pv 2 (pv 2))) .nil))))))))
theorem ok_row_text {f : Addr} {fd : FuncData} (N : Nt P w K mg cls) (c_comings_word : Cal P w K mg base (tab cls) "comings_word" 1 M_comings_word) (hf : Fun K "row_text" "row_text" st_row_text f fd) : FnOk P w K mg base (L2.CX P w) 2 f fd ["row"] (spM K (tab cls) M_row_text) := by
  have S : FnScope ["row", "words", "begin", "at"] ["row"] (defScope st_row_text) := ⟨rfl, rfl, rfl, by decide +kernel, rfl, by decide +kernel, by decide +kernel⟩
  refine fn_ml (k := 1) hf S rfl fun cdv A outer s H E F hr hF => ?_
  exact (ms_cons (ms_own hF 1 (ml_lst ma_nil) S.nd)
    (ms_cons (ms_set hF 2 me_int S.nd)
    (ms_cons (ms_for (vs := [3]) hF (passes_of rfl) rfl (mi_rng1 N.b_range (ma_cons (mp_d (me_blt call_len m_len N.b_len bt_len (ma_cons (mp_d (me_pv 0 (pv 0))) ma_nil))) ma_nil)) (mg_name 3 S.nd) (ms_one (ms_if (mw_or (mt_cmp (op_eqA hr) m_eq.op (mp_d (me_bin op_addA m_add (mp_d (me_pv 3 (pv 3))) (mp_d me_int))) (mp_d (me_blt call_len m_len N.b_len bt_len (ma_cons (mp_d (me_pv 0 (pv 0))) ma_nil)))) (mw_or1 (mt_cmp (op_neA hr) m_ne.op (mp_d (me_sub ix_seq m_ix (mp_d (me_pv 0 (pv 0))) (mp_d (me_bin op_addA m_add (mp_d (me_pv 3 (pv 3))) (mp_d me_int))))) (mp_d (me_sub ix_seq m_ix (mp_d (me_pv 0 (pv 0))) (mp_d (me_pv 3 (pv 3)))))))).pt (ms_cons (ms_do (me_append 1 (pv 1) (ma_cons (mp_d (me_call c_comings_word (hr.mono (by decide)) (takes_of rfl rfl rfl rfl) (ma_cons (mp_d (me_sub ix_seq m_ix (mp_d (me_pv 0 (pv 0))) (mp_d (me_pv 3 (pv 3))))) (ma_cons (mp_d (me_bin op_sub m_sub (mp_d (me_bin op_addA m_add (mp_d (me_pv 3 (pv 3))) (mp_d me_int))) (mp_d (me_pv 2 (pv 2))))) ma_nil)))) ma_nil)))
    (ms_one (ms_set hF 2 (me_bin op_addA m_add (mp_d (me_pv 3 (pv 3))) (mp_d me_int)) S.nd))) ms_nil)))
    (ms_one (ms_ret (me_sm PySem.F.slot_str_join PySem.F.type_str_join mt_join m_join me_str (ma_cons (mp_ow 1 (pv 1)) ma_nil)))))))
theorem ok_comings_of {f : Addr} {fd : FuncData} (N : Nt P w K mg cls)  (hf : Fun K "comings_of" "comings_of" st_comings_of f fd) : FnOk P w K mg base (L2.CX P w) 1 f fd ["word", "width"] (spM K (tab cls) M_comings_of) := by
  have S : FnScope ["word", "width", "numbers", "sign"] ["word", "width"] (defScope st_comings_of) := ⟨rfl, rfl, rfl, by decide +kernel, rfl, by decide +kernel, by decide +kernel⟩
  refine fn_ml (k := 0) hf S rfl fun cdv A outer s H E F hr hF => ?_
  exact (ms_cons (ms_if (mt_cmp (op_neA hr) m_ne.op (mp_d (me_blt call_len m_len N.b_len bt_len (ma_cons (mp_d (me_pv 0 (pv 0))) ma_nil))) (mp_d (me_pv 1 (pv 1)))) (ms_one (ms_ret me_non)) ms_nil)
    (ms_cons (ms_setLcF hF 2 [("sign", 3)] rfl S.nd rfl (mi_any (me_pv 0 (pv 0))) (blkOk_by (N := ["word", "width", "numbers", "sign"]) (sc := defScope st_comings_of) (by decide +kernel)) (fun s H C cl fp => (mg_name 3 S.nd)) (fun F s H C cl fp => mts_nil) (fun F s H C cl fp => (me_sm PySem.F.slot_str_find PySem.F.type_str_find mt_find m_find (me_gstr N.g_KINDS) (ma_cons (mp_d (me_pv 3 (pv 3))) ma_nil))) s)
    (ms_cons (ms_if (mt_cmp op_lt m_icmp.op (mp_d (me_blt (call_minA rfl) m_min N.b_min bt_min (ma_cons (mp_d (me_pv 2 (pv 2))) ma_nil))) (mp_d me_int)) (ms_one (ms_ret me_non)) ms_nil)
    (ms_one (ms_ret (me_typ call_tuple_of m_tuple N.b_tuple bt_tuple (ma_cons (mp_d (me_pv 2 (pv 2))) ma_nil)))))))
theorem ok_split_word {f : Addr} {fd : FuncData} (N : Nt P w K mg cls) (c_number_of : Cal P w K mg base (tab cls) "number_of" 1 M_number_of) (hf : Fun K "split_word" "split_word" st_split_word f fd) : FnOk P w K mg base (L2.CX P w) 2 f fd ["word"] (spM K (tab cls) M_split_word) := by
  have S : FnScope ["word", "number", "_", "rest", "many"] ["word"] (defScope st_split_word) := ⟨rfl, rfl, rfl, by decide +kernel, rfl, by decide +kernel, by decide +kernel⟩
  refine fn_ml (k := 1) hf S rfl fun cdv A outer s H E F hr hF => ?_
  exact (ms_cons (ms_if (mt_cmp op_ninA m_nin.op (mp_d me_str) (mp_d (me_pv 0 (pv 0)))) (ms_one (ms_ret (me_tup (ma_cons (mp_d me_int) (ma_cons (mp_d (me_pv 0 (pv 0))) ma_nil))))) ms_nil)
    (ms_cons (ms_asg (vs := [1, 2, 3]) hF (me_sm PySem.F.slot_str_partition PySem.F.type_str_partition mt_partition m_partition (me_pv 0 (pv 0)) (ma_cons (mp_d me_str) ma_nil)) (mg_tup (mgs_cons (mg_name 1 S.nd) (mgs_cons (mg_name 2 S.nd) (mgs_cons (mg_name 3 S.nd) mgs_nil))) fun a => pg_tup rfl a))
    (ms_cons (ms_set hF 4 (me_call c_number_of (hr.mono (by decide)) (takes_of rfl rfl rfl rfl) (ma_cons (mp_d (me_pv 1 (pv 1))) ma_nil)) S.nd)
    (ms_one (ms_ret (me_tup (ma_cons (mp_d (me_if (mt_cmp op_isN m_isN.op (mp_d (me_pv 4 (pv 4))) (mp_d me_non)) me_int (me_pv 4 (pv 4)))) (ma_cons (mp_d (me_pv 3 (pv 3))) ma_nil))))))))
theorem ok_RowReader___init {f : Addr} {fd : FuncData} (N : Nt P w K mg cls)  (hf : Fun K "__init__" "RowReader.__init__" st_RowReader___init f fd) : FnOk P w K mg base (L2.CX P w) 1 f fd ["self"] (spM K (tab cls) M_RowReader___init) := by
  have S : FnScope ["self"] ["self"] (defScope st_RowReader___init) := ⟨rfl, rfl, rfl, by decide +kernel, rfl, by decide +kernel, by decide +kernel⟩
  refine fn_ml (k := 0) hf S rfl fun cdv A outer s H E F hr hF => ?_
  exact (ms_cons (ms_fld 4 0 0 (mv_lst (mvs_cons (mv_lst mvs_nil) fun F hF0 => mvs_nil)) (pv 0) N.cl_RowReader N.no_RowReader_parts rfl ndf_RowReader lnf_RowReader)
    (ms_one (ms_fld 4 0 1 (mv_lst mvs_nil) (pv 0) N.cl_RowReader N.no_RowReader_times rfl ndf_RowReader lnf_RowReader)))
theorem ok_RowReader_room {f : Addr} {fd : FuncData} (N : Nt P w K mg cls)  (hf : Fun K "room" "RowReader.room" st_RowReader_room f fd) : FnOk P w K mg base (L2.CX P w) 1 f fd ["self"] (spM K (tab cls) M_RowReader_room) := by
  have S : FnScope ["self", "part"] ["self"] (defScope st_RowReader_room) := ⟨rfl, rfl, rfl, by decide +kernel, rfl, by decide +kernel, by decide +kernel⟩
  refine fn_ml (k := 0) hf S rfl fun cdv A outer s H E F hr hF => ?_
  exact (ms_one (ms_ret (me_bin op_sub m_sub (mp_d (me_gint N.g_MOST_COMINGS)) (mp_d (me_blt (cr_sum rfl) m_sum N.b_sum bt_sum (ma_cons (mp_d (me_lof (ml_lc hF [("part", 1)] rfl S.nd (mi_any (me_fld 4 0 (mp_d (me_pv 0 (pv 0))) N.cl_RowReader N.no_RowReader_parts rfl ndf_RowReader)) (blkOk_by (N := ["self", "part"]) (sc := defScope st_RowReader_room) (by decide +kernel)) (fun s H C cl fp => (mg_name 1 S.nd)) (fun F s H C cl fp => mts_nil) (fun F s H C cl fp => (me_blt call_len m_len N.b_len bt_len (ma_cons (mp_d (me_pv 1 (pv 1))) ma_nil))) (s0 := s)))) ma_nil))))))
theorem ok_RowReader_add {f : Addr} {fd : FuncData} (N : Nt P w K mg cls) (c_RowReader_room : CalM P w K mg base (tab cls) 4 "room" 1 M_RowReader_room) (hf : Fun K "add" "RowReader.add" st_RowReader_add f fd) : FnOk P w K mg base (L2.CX P w) 2 f fd ["self", "comings", "many"] (spM K (tab cls) M_RowReader_add) := by
  have S : FnScope ["self", "comings", "many"] ["self", "comings", "many"] (defScope st_RowReader_add) := ⟨rfl, rfl, rfl, by decide +kernel, rfl, by decide +kernel, by decide +kernel⟩
  refine fn_ml (k := 1) hf S rfl fun cdv A outer s H E F hr hF => ?_
  exact (ms_cons (ms_if (mt_bor (mt_cmp op_gt m_icmp.op (mp_d (me_bin op_mulA m_mul (mp_d (me_pv 2 (pv 2))) (mp_d (me_blt call_len m_len N.b_len bt_len (ma_cons (mp_d (me_pv 1 (pv 1))) ma_nil))))) (mp_d (me_ofV (mv_methD0 c_RowReader_room (hr.mono (by decide)) (takes_of rfl rfl rfl rfl) (me_pv 0 (pv 0))))))) (ms_one (ms_ret me_bl)) ms_nil)
    (ms_cons (ms_do (me_pextend (mk_ix (-1) (mk_fld 4 0 (mk_var 0 (pv 0)) N.cl_RowReader N.no_RowReader_parts rfl ndf_RowReader) pe_negc) fun F hF0 => (ma_cons (mp_d (me_bin op_mulA m_mul (mp_d (me_pv 1 (pv 1))) (mp_d (me_pv 2 (pv 2))))) ma_nil)))
    (ms_one (ms_ret me_bl))))
theorem ok_RowReader_end_group {f : Addr} {fd : FuncData} (N : Nt P w K mg cls) (c_RowReader_add : CalM P w K mg base (tab cls) 4 "add" 2 M_RowReader_add) (hf : Fun K "end_group" "RowReader.end_group" st_RowReader_end_group f fd) : FnOk P w K mg base (L2.CX P w) 3 f fd ["self"] (spM K (tab cls) M_RowReader_end_group) := by
  have S : FnScope ["self", "many", "part"] ["self"] (defScope st_RowReader_end_group) := ⟨rfl, rfl, rfl, by decide +kernel, rfl, by decide +kernel, by decide +kernel⟩
  refine fn_ml (k := 2) hf S rfl fun cdv A outer s H E F hr hF => ?_
  exact (ms_cons (ms_if (mt_bor (mt_cmp (op_eqA hr) m_eq.op (mp_d (me_blt call_len m_len N.b_len bt_len (ma_cons (mp_d (me_fld 4 1 (mp_d (me_pv 0 (pv 0))) N.cl_RowReader N.no_RowReader_times rfl ndf_RowReader)) ma_nil))) (mp_d me_int))) (ms_one (ms_ret me_bl)) ms_nil)
    (ms_cons (ms_setV hF 1 (mv_pop (mk_fld 4 1 (mk_var 0 (pv 0)) N.cl_RowReader N.no_RowReader_times rfl ndf_RowReader)) S.nd)
    (ms_cons (ms_setV hF 2 (mv_pop (mk_fld 4 0 (mk_var 0 (pv 0)) N.cl_RowReader N.no_RowReader_parts rfl ndf_RowReader)) S.nd)
    (ms_one (ms_ret (me_ofV (mv_meth c_RowReader_add (hr.mono (by decide)) (takes_of rfl rfl rfl rfl) (pv 0) (ma_cons (mp_d (me_frz hF 2 (pv 2))) (ma_cons (mp_d (me_frz hF 1 (pv 1))) ma_nil)))))))))
theorem ok_RowReader_begin_group {f : Addr} {fd : FuncData} (N : Nt P w K mg cls)  (hf : Fun K "begin_group" "RowReader.begin_group" st_RowReader_begin_group f fd) : FnOk P w K mg base (L2.CX P w) 1 f fd ["self", "many"] (spM K (tab cls) M_RowReader_begin_group) := by
  have S : FnScope ["self", "many"] ["self", "many"] (defScope st_RowReader_begin_group) := ⟨rfl, rfl, rfl, by decide +kernel, rfl, by decide +kernel, by decide +kernel⟩
  refine fn_ml (k := 0) hf S rfl fun cdv A outer s H E F hr hF => ?_
  exact (ms_cons (ms_if (mt_bor (mt_cmp (op_eqA hr) m_eq.op (mp_d (me_blt call_len m_len N.b_len bt_len (ma_cons (mp_d (me_fld 4 1 (mp_d (me_pv 0 (pv 0))) N.cl_RowReader N.no_RowReader_times rfl ndf_RowReader)) ma_nil))) (mp_d (me_gint N.g_MOST_GROUPS)))) (ms_one (ms_ret me_bl)) ms_nil)
    (ms_cons (ms_do (me_pappend (mk_fld 4 1 (mk_var 0 (pv 0)) N.cl_RowReader N.no_RowReader_times rfl ndf_RowReader) fun F hF0 => (ma_cons (mp_d (me_pv 1 (pv 1))) ma_nil)))
    (ms_cons (ms_do (me_pappendV (mk_fld 4 0 (mk_var 0 (pv 0)) N.cl_RowReader N.no_RowReader_parts rfl ndf_RowReader) fun F hF0 => (mv_lst mvs_nil)))
    (ms_one (ms_ret me_bl)))))
theorem ok_RowReader_read_word {f : Addr} {fd : FuncData} (N : Nt P w K mg cls) (c_RowReader_end_group : CalM P w K mg base (tab cls) 4 "end_group" 3 M_RowReader_end_group) (c_split_word : Cal P w K mg base (tab cls) "split_word" 2 M_split_word) (c_RowReader_begin_group : CalM P w K mg base (tab cls) 4 "begin_group" 1 M_RowReader_begin_group) (c_comings_of : Cal P w K mg base (tab cls) "comings_of" 1 M_comings_of) (c_RowReader_add : CalM P w K mg base (tab cls) 4 "add" 2 M_RowReader_add) (hf : Fun K "read_word" "RowReader.read_word" st_RowReader_read_word f fd) : FnOk P w K mg base (L2.CX P w) 4 f fd ["self", "word", "width"] (spM K (tab cls) M_RowReader_read_word) := by
  have S : FnScope ["self", "word", "width", "many", "rest", "comings"] ["self", "word", "width"] (defScope st_RowReader_read_word) := ⟨rfl, rfl, rfl, by decide +kernel, rfl, by decide +kernel, by decide +kernel⟩
  refine fn_ml (k := 3) hf S rfl fun cdv A outer s H E F hr hF => ?_
  exact (ms_cons (ms_if (mt_cmp (op_eqA hr) m_eq.op (mp_d (me_pv 1 (pv 1))) (mp_d me_str)) (ms_one (ms_ret (me_ofV (mv_meth0 c_RowReader_end_group (hr.mono (by decide)) (takes_of rfl rfl rfl rfl) (pv 0))))) ms_nil)
    (ms_cons (ms_asg (vs := [3, 4]) hF (me_call c_split_word (hr.mono (by decide)) (takes_of rfl rfl rfl rfl) (ma_cons (mp_d (me_pv 1 (pv 1))) ma_nil)) (mg_tup (mgs_cons (mg_name 3 S.nd) (mgs_cons (mg_name 4 S.nd) mgs_nil)) fun a => pg_tup rfl a))
    (ms_cons (ms_if (mt_cmp (op_eqA hr) m_eq.op (mp_d (me_pv 3 (pv 3))) (mp_d me_int)) (ms_one (ms_ret me_bl)) ms_nil)
    (ms_cons (ms_if (mt_cmp (op_eqA hr) m_eq.op (mp_d (me_pv 4 (pv 4))) (mp_d me_str)) (ms_one (ms_ret (me_and (me_cmp op_inA m_in.op (mp_d me_str) (mp_d (me_pv 1 (pv 1)))) (me_one (me_ofV (mv_meth c_RowReader_begin_group (hr.mono (by decide)) (takes_of rfl rfl rfl rfl) (pv 0) (ma_cons (mp_d (me_pv 3 (pv 3))) ma_nil))))))) ms_nil)
    (ms_cons (ms_set hF 5 (me_call c_comings_of (hr.mono (by decide)) (takes_of rfl rfl rfl rfl) (ma_cons (mp_d (me_pv 4 (pv 4))) (ma_cons (mp_d (me_pv 2 (pv 2))) ma_nil))) S.nd)
    (ms_one (ms_ret (me_and (me_cmp op_notN m_notN.op (mp_d (me_pv 5 (pv 5))) (mp_d me_non)) (me_one (me_ofV (mv_meth c_RowReader_add (hr.mono (by decide)) (takes_of rfl rfl rfl rfl) (pv 0) (ma_cons (mp_d (me_lof (ml_lst (ma_cons (mp_d (me_pv 5 (pv 5))) ma_nil)))) (ma_cons (mp_d (me_pv 3 (pv 3))) ma_nil)))))))))))))
theorem ok_read_row {f : Addr} {fd : FuncData} (N : Nt P w K mg cls) (c_RowReader___init : CalI P w K mg base (tab cls) "RowReader" 4 1 M_RowReader___init) (c_RowReader_read_word : CalM P w K mg base (tab cls) 4 "read_word" 4 M_RowReader_read_word) (hf : Fun K "read_row" "read_row" st_read_row f fd) : FnOk P w K mg base (L2.CX P w) 5 f fd ["text", "width"] (spM K (tab cls) M_read_row) := by
  have S : FnScope ["text", "width", "reader", "words", "place", "word"] ["text", "width"] (defScope st_read_row) := ⟨rfl, rfl, rfl, by decide +kernel, rfl, by decide +kernel, by decide +kernel⟩
  refine fn_ml (k := 4) hf S rfl fun cdv A outer s H E F hr hF => ?_
  exact (ms_cons (ms_if (mt_cmp (op_eqA hr) m_eq.op (mp_d (me_pv 0 (pv 0))) (mp_d me_str)) (ms_one (ms_retV (mv_own (ml_lst ma_nil)))) ms_nil)
    (ms_cons (ms_setV hF 2 (mv_make0 c_RowReader___init (hr.mono (by decide)) (takes_of rfl rfl rfl rfl)) S.nd)
    (ms_cons (ms_set hF 3 (me_sm PySem.F.slot_str_split PySem.F.type_str_split mt_split m_split (me_pv 0 (pv 0)) (ma_cons (mp_d me_str) ma_nil)) S.nd)
    (ms_cons (ms_for (vs := [4, 5]) hF (passes_of rfl) rfl (mi_enum N.b_enumerate (ma_cons (mp_d (me_pv 3 (pv 3))) ma_nil)) (mg_tup (mgs_cons (mg_name 4 S.nd) (mgs_cons (mg_name 5 S.nd) mgs_nil)) fun a => pg_tup rfl a) (ms_one (ms_if (mt_not (mt_tru (mp_d (me_ofV (mv_meth c_RowReader_read_word (hr.mono (by decide)) (takes_of rfl rfl rfl rfl) (pv 2) (ma_cons (mp_d (me_pv 5 (pv 5))) (ma_cons (mp_d (me_pv 1 (pv 1))) ma_nil))))))) (ms_one (ms_exc1 N.x_BadWord rfl (takes_of rfl rfl rfl rfl) hr (ma_cons (mp_d (me_pv 4 (pv 4))) ma_nil))) ms_nil)))
    (ms_cons (ms_if (mt_bor (mt_cmp op_gt m_icmp.op (mp_d (me_blt call_len m_len N.b_len bt_len (ma_cons (mp_d (me_fld 4 1 (mp_d (me_pv 2 (pv 2))) N.cl_RowReader N.no_RowReader_times rfl ndf_RowReader)) ma_nil))) (mp_d me_int))) (ms_one (ms_exc1 N.x_BadWord rfl (takes_of rfl rfl rfl rfl) hr (ma_cons (mp_d (me_blt call_len m_len N.b_len bt_len (ma_cons (mp_d (me_pv 3 (pv 3))) ma_nil))) ma_nil))) ms_nil)
    (ms_one (ms_retV (mv_at (mk_ix (0) (mk_fld 4 0 (mk_var 2 (pv 2)) N.cl_RowReader N.no_RowReader_parts rfl ndf_RowReader) pe_int)))))))))
theorem ok_law_cell {f : Addr} {fd : FuncData} (N : Nt P w K mg cls)  (hf : Fun K "_law_cell" "_law_cell" st_law_cell f fd) : FnOk P w K mg base (L2.CX P w) 1 f fd ["script", "k"] (spM K (tab cls) M_law_cell) := by
  have S : FnScope ["script", "k"] ["script", "k"] (defScope st_law_cell) := ⟨rfl, rfl, rfl, by decide +kernel, rfl, by decide +kernel, by decide +kernel⟩
  refine fn_ml (k := 0) hf S rfl fun cdv A outer s H E F hr hF => ?_
  exact (ms_cons (ms_if (mt_cmp op_lt m_icmp.op (mp_d (me_pv 1 (pv 1))) (mp_d (me_blt call_len m_len N.b_len bt_len (ma_cons (mp_d (me_pv 0 (pv 0))) ma_nil)))) (ms_one (ms_ret (me_blt call_abs m_abs N.b_abs bt_abs (ma_cons (mp_d (me_sub ix_seq m_ix (mp_d (me_pv 0 (pv 0))) (mp_d (me_pv 1 (pv 1))))) ma_nil)))) ms_nil)
    (ms_one (ms_ret me_int)))
theorem ok_law_hand {f : Addr} {fd : FuncData} (N : Nt P w K mg cls) (c_law_cell : Cal P w K mg base (tab cls) "_law_cell" 1 M_law_cell) (hf : Fun K "_law_hand" "_law_hand" st_law_hand f fd) : FnOk P w K mg base (L2.CX P w) 2 f fd ["script", "k"] (spM K (tab cls) M_law_hand) := by
  have S : FnScope ["script", "k", "cell"] ["script", "k"] (defScope st_law_hand) := ⟨rfl, rfl, rfl, by decide +kernel, rfl, by decide +kernel, by decide +kernel⟩
  refine fn_ml (k := 1) hf S rfl fun cdv A outer s H E F hr hF => ?_
  exact (ms_cons (ms_set hF 2 (me_call c_law_cell (hr.mono (by decide)) (takes_of rfl rfl rfl rfl) (ma_cons (mp_d (me_pv 0 (pv 0))) (ma_cons (mp_d (me_pv 1 (pv 1))) ma_nil))) S.nd)
    (ms_one (ms_retV (mv_own (ml_lst (ma_cons (mp_d (me_pv 2 (pv 2))) (ma_cons (mp_d (me_typ call_intA m_int N.b_int bt_int (ma_cons (mp_d (me_cmp op_ge m_icmp.op (mp_d (me_pv 2 (pv 2))) (mp_d (me_bin op_pow m_pow (mp_d me_int) (mp_d me_int))))) ma_nil))) (ma_cons (mp_d me_int) (ma_cons (mp_d (me_bin op_addA m_add (mp_d (me_bin op_mod m_mod (mp_d (me_typ call_intA m_int N.b_int bt_int (ma_cons (mp_d (me_pv 2 (pv 2))) ma_nil))) (mp_d me_int))) (mp_d (me_bin op_mulA m_mul (mp_d me_int) (mp_d (me_pv 1 (pv 1))))))) ma_nil)))))))))
theorem ok_law_take {f : Addr} {fd : FuncData} (N : Nt P w K mg cls)  (hf : Fun K "_law_take" "_law_take" st_law_take f fd) : FnOk P w K mg base (L2.CX P w) 1 f fd ["hand", "many"] (spM K (tab cls) M_law_take) := by
  have S : FnScope ["hand", "many", "mixed", "digit"] ["hand", "many"] (defScope st_law_take) := ⟨rfl, rfl, rfl, by decide +kernel, rfl, by decide +kernel, by decide +kernel⟩
  refine fn_ml (k := 0) hf S rfl fun cdv A outer s H E F hr hF => ?_
  exact (ms_cons (ms_if (mw_and (mt_cmp (op_eqA hr) m_eq.op (mp_d (me_sub ix_seq m_ix (mp_ow 0 (pv 0)) (mp_d me_int))) (mp_d me_int)) (mw_and1 (mt_cmp op_gt m_icmp.op (mp_d (me_sub ix_seq m_ix (mp_ow 0 (pv 0)) (mp_d me_int))) (mp_d me_int)))).pt (ms_cons (ms_set hF 3 (me_bin op_mod m_mod (mp_d (me_typ call_intA m_int N.b_int bt_int (ma_cons (mp_d (me_sub ix_seq m_ix (mp_ow 0 (pv 0)) (mp_d me_int))) ma_nil))) (mp_d (me_pv 1 (pv 1)))) S.nd)
    (ms_cons (ms_put 0 (me_bin op_fdiv m_fdiv (mp_d (me_sub ix_seq m_ix (mp_ow 0 (pv 0)) (mp_d me_int))) (mp_d (me_pv 1 (pv 1)))) (pv 0) me_int (pg_sub (pv 0) me_int set_list))
    (ms_one (ms_ret (me_pv 3 (pv 3)))))) ms_nil)
    (ms_cons (ms_put 0 (me_bin op_addA m_add (mp_d (me_sub ix_seq m_ix (mp_ow 0 (pv 0)) (mp_d me_int))) (mp_d me_int)) (pv 0) me_int (pg_sub (pv 0) me_int set_list))
    (ms_cons (ms_set hF 2 (me_bin op_mod m_mod (mp_d (me_typ call_intA m_int N.b_int bt_int (ma_cons (mp_d (me_bin op_addA m_add (mp_d (me_bin op_addA m_add (mp_d (me_bin op_mulA m_mul (mp_d (me_sub ix_seq m_ix (mp_ow 0 (pv 0)) (mp_d me_int))) (mp_d me_int))) (mp_d (me_bin op_mulA m_mul (mp_d (me_sub ix_seq m_ix (mp_ow 0 (pv 0)) (mp_d me_int))) (mp_d me_int))))) (mp_d me_int))) ma_nil))) (mp_d me_int)) S.nd)
    (ms_cons (ms_set hF 2 (me_bin op_mod m_mod (mp_d (me_typ call_intA m_int N.b_int bt_int (ma_cons (mp_d (me_bin op_addA m_add (mp_d (me_bin op_addA m_add (mp_d (me_bin op_mulA m_mul (mp_d (me_pv 2 (pv 2))) (mp_d (me_pv 2 (pv 2))))) (mp_d (me_bin op_mulA m_mul (mp_d (me_sub ix_seq m_ix (mp_ow 0 (pv 0)) (mp_d me_int))) (mp_d me_int))))) (mp_d me_int))) ma_nil))) (mp_d me_int)) S.nd)
    (ms_cons (ms_set hF 2 (me_bin op_mod m_mod (mp_d (me_typ call_intA m_int N.b_int bt_int (ma_cons (mp_d (me_bin op_addA m_add (mp_d (me_bin op_mulA m_mul (mp_d (me_pv 2 (pv 2))) (mp_d (me_pv 2 (pv 2))))) (mp_d (me_bin op_fdiv m_fdiv (mp_d (me_pv 2 (pv 2))) (mp_d me_int))))) ma_nil))) (mp_d me_int)) S.nd)
    (ms_one (ms_ret (me_bin op_mod m_mod (mp_d (me_typ call_intA m_int N.b_int bt_int (ma_cons (mp_d (me_bin op_fdiv m_fdiv (mp_d (me_pv 2 (pv 2))) (mp_d me_int))) ma_nil))) (mp_d (me_pv 1 (pv 1)))))))))))
theorem ok_law_some {f : Addr} {fd : FuncData} (N : Nt P w K mg cls) (c_law_take : Cal P w K mg base (tab cls) "_law_take" 1 M_law_take) (hf : Fun K "_law_some" "_law_some" st_law_some f fd) : FnOk P w K mg base (L2.CX P w) 2 f fd ["hand", "count", "many"] (spM K (tab cls) M_law_some) := by
  have S : FnScope ["hand", "count", "many", "k"] ["hand", "count", "many"] (defScope st_law_some) := ⟨rfl, rfl, rfl, by decide +kernel, rfl, by decide +kernel, by decide +kernel⟩
  refine fn_ml (k := 1) hf S rfl fun cdv A outer s H E F hr hF => ?_
  exact (ms_one (ms_ret (me_lof (ml_lc hF [("k", 3)] rfl S.nd (mi_rng1 N.b_range (ma_cons (mp_d (me_pv 1 (pv 1))) ma_nil)) (blkOk_by (N := ["hand", "count", "many", "k"]) (sc := defScope st_law_some) (by decide +kernel)) (fun s H C cl fp => (mg_name 3 S.nd)) (fun F s H C cl fp => mts_nil) (fun F s H C cl fp => (me_call c_law_take (hr.mono (by decide)) takes0 (ma_cons (mp_ow 0 (pv 0)) (ma_cons (mp_d (me_pv 2 (pv 2))) ma_nil)))) (s0 := s)))))
theorem ok_law_is_int {f : Addr} {fd : FuncData} (N : Nt P w K mg cls)  (hf : Fun K "_law_is_int" "_law_is_int" st_law_is_int f fd) : FnOk P w K mg base (L2.CX P w) 1 f fd ["got"] (spM K (tab cls) M_law_is_int) := by
  have S : FnScope ["got"] ["got"] (defScope st_law_is_int) := ⟨rfl, rfl, rfl, by decide +kernel, rfl, by decide +kernel, by decide +kernel⟩
  refine fn_ml (k := 0) hf S rfl fun cdv A outer s H E F hr hF => ?_
  exact (ms_one (ms_ret (me_and (me_isi (mp_d (me_pv 0 (pv 0))) (pe_tyn N.b_int bt_int) N.b_isinstance kb_int) (me_one (me_not (me_isi (mp_d (me_pv 0 (pv 0))) (pe_tyn N.b_bool bt_bool) N.b_isinstance kb_bool))))))
theorem ok_law_same {f : Addr} {fd : FuncData} (N : Nt P w K mg cls) (c_law_is_int : Cal P w K mg base (tab cls) "_law_is_int" 1 M_law_is_int) (hm : mg "_law_same" = some (.ref f)) (hb : Binds K fd ["got", "due"] []) (hf : Fun K "_law_same" "_law_same" st_law_same f fd) : ∀ n, FnOk P w K mg base (L2.CX P w) (n + 2) f fd ["got", "due"] (spM K (tab cls) (M_law_same n))
  | 0 => ⟨fun vs H Q E h => (by obtain ⟨_, _, _, _, z⟩ := h; exact z.elim), fun A outer s H args us vs Q E _ _ _ _ h => (by obtain ⟨_, _, _, _, z⟩ := h; exact z.elim)⟩
  | n + 1 => by
    have S : FnScope ["got", "due", "k"] ["got", "due"] (defScope st_law_same) := ⟨rfl, rfl, rfl, by decide +kernel, rfl, by decide +kernel, by decide +kernel⟩
    have c_law_same : Cal P w K mg base (tab cls) "_law_same" (n + 2) (M_law_same n) := ⟨⟨f, fd, ["got", "due"], ok_law_same N c_law_is_int hm hb hf n, hm, hf.kp, hb⟩⟩
    have e : n + 1 + 2 = (n + 2) + 1 := by omega
    rw [e]
    refine fn_ml (k := n + 2) hf S rfl fun cdv A outer s H E F hr hF => ?_
    exact (ms_cons (ms_if (mt_cmp op_isN m_isN.op (mp_d (me_pv 1 (pv 1))) (mp_d me_non)) (ms_one (ms_ret (me_cmp op_isN m_isN.op (mp_d (me_pv 0 (pv 0))) (mp_d me_non)))) ms_nil)
    (ms_cons (ms_if (mw_or (mt_cmp op_isB m_isB.op (mp_d (me_pv 1 (pv 1))) (mp_d me_bl)) (mw_or1 (mt_cmp op_isB m_isB.op (mp_d (me_pv 1 (pv 1))) (mp_d me_bl)))).pt (ms_one (ms_ret (me_and (me_isi (mp_d (me_pv 0 (pv 0))) (pe_tyn N.b_bool bt_bool) N.b_isinstance kb_bool) (me_one (me_cmp (op_eqA hr) m_eq.op (mp_d (me_pv 0 (pv 0))) (mp_d (me_pv 1 (pv 1)))))))) ms_nil)
    (ms_cons (ms_if (mt_tru (mp_d (me_isi (mp_d (me_pv 1 (pv 1))) (pe_tyn N.b_int bt_int) N.b_isinstance kb_int))) (ms_one (ms_ret (me_and (me_call c_law_is_int (hr.mono (by omega)) (takes_of rfl rfl rfl rfl) (ma_cons (mp_d (me_pv 0 (pv 0))) ma_nil)) (me_one (me_cmp (op_eqA hr) m_eq.op (mp_d (me_pv 0 (pv 0))) (mp_d (me_pv 1 (pv 1)))))))) ms_nil)
    (ms_cons (ms_if (mt_tru (mp_d (me_isi (mp_d (me_pv 1 (pv 1))) (pe_tyn N.b_str bt_str) N.b_isinstance kb_str))) (ms_one (ms_ret (me_and (me_isi (mp_d (me_pv 0 (pv 0))) (pe_tyn N.b_str bt_str) N.b_isinstance kb_str) (me_one (me_cmp (op_eqA hr) m_eq.op (mp_d (me_pv 0 (pv 0))) (mp_d (me_pv 1 (pv 1)))))))) ms_nil)
    (ms_cons (ms_if (mw_and (mt_tru (mp_d (me_isi (mp_d (me_pv 1 (pv 1))) (pe_tyn N.b_tuple bt_tuple) N.b_isinstance kb_tuple))) (mw_and1 (mt_not (mt_tru (mp_d (me_isi (mp_d (me_pv 0 (pv 0))) (pe_tyn N.b_tuple bt_tuple) N.b_isinstance kb_tuple)))))).pt (ms_one (ms_ret me_bl)) ms_nil)
    (ms_cons (ms_if (mw_and (mt_tru (mp_d (me_isi (mp_d (me_pv 1 (pv 1))) (pe_tyn N.b_list bt_list) N.b_isinstance kb_list))) (mw_and1 (mt_not (mt_tru (mp_d (me_isi (mp_d (me_pv 0 (pv 0))) (pe_tyn N.b_list bt_list) N.b_isinstance kb_list)))))).pt (ms_one (ms_ret me_bl)) ms_nil)
    (ms_cons (ms_if (mt_cmp (op_neA hr) m_ne.op (mp_d (me_blt call_len m_len N.b_len bt_len (ma_cons (mp_d (me_pv 0 (pv 0))) ma_nil))) (mp_d (me_blt call_len m_len N.b_len bt_len (ma_cons (mp_d (me_pv 1 (pv 1))) ma_nil)))) (ms_one (ms_ret me_bl)) ms_nil)
    (ms_cons (ms_for (vs := [2]) hF (passes_of rfl) rfl (mi_rng1 N.b_range (ma_cons (mp_d (me_blt call_len m_len N.b_len bt_len (ma_cons (mp_d (me_pv 1 (pv 1))) ma_nil))) ma_nil)) (mg_name 2 S.nd) (ms_one (ms_if (mt_not (mt_tru (mp_d (me_call c_law_same (hr.mono (by omega)) (takes_of rfl rfl rfl rfl) (ma_cons (mp_d (me_sub ix_seq m_ix (mp_d (me_pv 0 (pv 0))) (mp_d (me_pv 2 (pv 2))))) (ma_cons (mp_d (me_sub ix_seq m_ix (mp_d (me_pv 1 (pv 1))) (mp_d (me_pv 2 (pv 2))))) ma_nil)))))) (ms_one (ms_ret me_bl)) ms_nil)))
    (ms_one (ms_ret me_bl))))))))))
theorem ok_law_stretch {f : Addr} {fd : FuncData} (N : Nt P w K mg cls)  (hf : Fun K "_law_stretch" "_law_stretch" st_law_stretch f fd) : FnOk P w K mg base (L2.CX P w) 1 f fd ["comings", "many"] (spM K (tab cls) M_law_stretch) := by
  have S : FnScope ["comings", "many", "word", "x"] ["comings", "many"] (defScope st_law_stretch) := ⟨rfl, rfl, rfl, by decide +kernel, rfl, by decide +kernel, by decide +kernel⟩
  refine fn_ml (k := 0) hf S rfl fun cdv A outer s H E F hr hF => ?_
  exact (ms_cons (ms_set hF 2 (me_sm PySem.F.slot_str_join PySem.F.type_str_join mt_join m_join me_str (ma_cons (mp_d (me_lof (ml_lc hF [("x", 3)] rfl S.nd (mi_any (me_pv 0 (pv 0))) (blkOk_by (N := ["comings", "many", "word", "x"]) (sc := defScope st_law_stretch) (by decide +kernel)) (fun s H C cl fp => (mg_name 3 S.nd)) (fun F s H C cl fp => mts_nil) (fun F s H C cl fp => (me_typ call_str_int m_str N.b_str bt_str (ma_cons (mp_d (me_pv 3 (pv 3))) ma_nil))) (s0 := s)))) ma_nil)) S.nd)
    (ms_cons (ms_if (mt_cmp op_gt m_icmp.op (mp_d (me_pv 1 (pv 1))) (mp_d me_int)) (ms_one (ms_set hF 2 (me_bin op_addA m_add (mp_d (me_bin op_addA m_add (mp_d (me_typ call_str_int m_str N.b_str bt_str (ma_cons (mp_d (me_pv 1 (pv 1))) ma_nil))) (mp_d me_str))) (mp_d (me_pv 2 (pv 2)))) S.nd)) ms_nil)
    (ms_one (ms_ret (me_pv 2 (pv 2))))))
theorem ok_law_written {f : Addr} {fd : FuncData} (N : Nt P w K mg cls) (c_law_stretch : Cal P w K mg base (tab cls) "_law_stretch" 1 M_law_stretch) (hf : Fun K "_law_written" "_law_written" st_law_written f fd) : FnOk P w K mg base (L2.CX P w) 2 f fd ["row"] (spM K (tab cls) M_law_written) := by
  have S : FnScope ["row", "words", "last", "many", "comings"] ["row"] (defScope st_law_written) := ⟨rfl, rfl, rfl, by decide +kernel, rfl, by decide +kernel, by decide +kernel⟩
  refine fn_ml (k := 1) hf S rfl fun cdv A outer s H E F hr hF => ?_
  exact (ms_cons (ms_own hF 1 (ml_lst ma_nil) S.nd)
    (ms_cons (ms_set hF 2 me_non S.nd)
    (ms_cons (ms_set hF 3 me_int S.nd)
    (ms_cons (ms_for (vs := [4]) hF (passes_of rfl) rfl (mi_any (me_pv 0 (pv 0))) (mg_name 4 S.nd) (ms_cons (ms_if (mw_and (mt_cmp op_notN m_notN.op (mp_d (me_pv 2 (pv 2))) (mp_d me_non)) (mw_and1 (mt_cmp (op_neA hr) m_ne.op (mp_d (me_pv 4 (pv 4))) (mp_d (me_pv 2 (pv 2)))))).pt (ms_cons (ms_do (me_append 1 (pv 1) (ma_cons (mp_d (me_call c_law_stretch (hr.mono (by decide)) (takes_of rfl rfl rfl rfl) (ma_cons (mp_d (me_pv 2 (pv 2))) (ma_cons (mp_d (me_pv 3 (pv 3))) ma_nil)))) ma_nil)))
    (ms_one (ms_set hF 3 me_int S.nd))) ms_nil)
    (ms_cons (ms_set hF 2 (me_pv 4 (pv 4)) S.nd)
    (ms_one (ms_set hF 3 (me_bin op_addA m_add (mp_d (me_pv 3 (pv 3))) (mp_d me_int)) S.nd)))))
    (ms_cons (ms_if (mt_cmp op_notN m_notN.op (mp_d (me_pv 2 (pv 2))) (mp_d me_non)) (ms_one (ms_do (me_append 1 (pv 1) (ma_cons (mp_d (me_call c_law_stretch (hr.mono (by decide)) (takes_of rfl rfl rfl rfl) (ma_cons (mp_d (me_pv 2 (pv 2))) (ma_cons (mp_d (me_pv 3 (pv 3))) ma_nil)))) ma_nil)))) ms_nil)
    (ms_one (ms_ret (me_sm PySem.F.slot_str_join PySem.F.type_str_join mt_join m_join me_str (ma_cons (mp_ow 1 (pv 1)) ma_nil)))))))))
theorem ok_law_count {f : Addr} {fd : FuncData} (N : Nt P w K mg cls)  (hf : Fun K "_law_count" "_law_count" st_law_count f fd) : FnOk P w K mg base (L2.CX P w) 1 f fd ["word"] (spM K (tab cls) M_law_count) := by
  have S : FnScope ["word", "sign"] ["word"] (defScope st_law_count) := ⟨rfl, rfl, rfl, by decide +kernel, rfl, by decide +kernel, by decide +kernel⟩
  refine fn_ml (k := 0) hf S rfl fun cdv A outer s H E F hr hF => ?_
  exact (ms_cons (ms_if (mw_or (mt_cmp op_lt m_icmp.op (mp_d (me_blt call_len m_len N.b_len bt_len (ma_cons (mp_d (me_pv 0 (pv 0))) ma_nil))) (mp_d me_int)) (mw_or (mt_cmp op_gt m_icmp.op (mp_d (me_blt call_len m_len N.b_len bt_len (ma_cons (mp_d (me_pv 0 (pv 0))) ma_nil))) (mp_d me_int)) (mw_or1 (mt_cmp (op_eqA hr) m_eq.op (mp_d (me_sub ix_seq m_ix (mp_d (me_pv 0 (pv 0))) (mp_d me_int))) (mp_d me_str))))).pt (ms_one (ms_ret me_int)) ms_nil)
    (ms_cons (ms_for (vs := [1]) hF (passes_of rfl) rfl (mi_any (me_pv 0 (pv 0))) (mg_name 1 S.nd) (ms_one (ms_if (mt_cmp op_ninA m_nin.op (mp_d (me_pv 1 (pv 1))) (mp_d me_str)) (ms_one (ms_ret me_int)) ms_nil)))
    (ms_one (ms_ret (me_typ call_intA m_int N.b_int bt_int (ma_cons (mp_d (me_pv 0 (pv 0))) ma_nil))))))
theorem ok_law_digits {f : Addr} {fd : FuncData} (N : Nt P w K mg cls)  (hf : Fun K "_law_digits" "_law_digits" st_law_digits f fd) : FnOk P w K mg base (L2.CX P w) 1 f fd ["word", "width"] (spM K (tab cls) M_law_digits) := by
  have S : FnScope ["word", "width", "sign"] ["word", "width"] (defScope st_law_digits) := ⟨rfl, rfl, rfl, by decide +kernel, rfl, by decide +kernel, by decide +kernel⟩
  refine fn_ml (k := 0) hf S rfl fun cdv A outer s H E F hr hF => ?_
  exact (ms_cons (ms_if (mt_cmp (op_neA hr) m_ne.op (mp_d (me_blt call_len m_len N.b_len bt_len (ma_cons (mp_d (me_pv 0 (pv 0))) ma_nil))) (mp_d (me_pv 1 (pv 1)))) (ms_one (ms_ret me_non)) ms_nil)
    (ms_cons (ms_for (vs := [2]) hF (passes_of rfl) rfl (mi_any (me_pv 0 (pv 0))) (mg_name 2 S.nd) (ms_one (ms_if (mt_cmp op_ninA m_nin.op (mp_d (me_pv 2 (pv 2))) (mp_d me_str)) (ms_one (ms_ret me_non)) ms_nil)))
    (ms_one (ms_ret (me_typ call_tuple_of m_tuple N.b_tuple bt_tuple (ma_cons (mp_d (me_lof (ml_lc hF [("sign", 2)] rfl S.nd (mi_any (me_pv 0 (pv 0))) (blkOk_by (N := ["word", "width", "sign"]) (sc := defScope st_law_digits) (by decide +kernel)) (fun s H C cl fp => (mg_name 2 S.nd)) (fun F s H C cl fp => mts_nil) (fun F s H C cl fp => (me_typ call_intA m_int N.b_int bt_int (ma_cons (mp_d (me_pv 2 (pv 2))) ma_nil))) (s0 := s)))) ma_nil))))))
theorem ok_law_read {f : Addr} {fd : FuncData} (N : Nt P w K mg cls) (c_law_count : Cal P w K mg base (tab cls) "_law_count" 1 M_law_count) (c_law_digits : Cal P w K mg base (tab cls) "_law_digits" 1 M_law_digits) (hf : Fun K "_law_read" "_law_read" st_law_read f fd) : FnOk P w K mg base (L2.CX P w) 2 f fd ["text", "width"] (spM K (tab cls) M_law_read) := by
  have S : FnScope ["text", "width", "row", "groups", "words", "place", "word", "times", "cut", "group", "part", "comings"] ["text", "width"] (defScope st_law_read) := ⟨rfl, rfl, rfl, by decide +kernel, rfl, by decide +kernel, by decide +kernel⟩
  refine fn_ml (k := 1) hf S rfl fun cdv A outer s H E F hr hF => ?_
  exact (ms_cons (ms_set hF 2 (me_lof (ml_lst ma_nil)) S.nd)
    (ms_cons (ms_own hF 3 (ml_lst ma_nil) S.nd)
    (ms_cons (ms_if (mt_cmp (op_eqA hr) m_eq.op (mp_d (me_pv 0 (pv 0))) (mp_d me_str)) (ms_one (ms_ret (me_tup (ma_cons (mp_d me_str) (ma_cons (mp_d (me_pv 2 (pv 2))) ma_nil))))) ms_nil)
    (ms_cons (ms_set hF 4 (me_sm PySem.F.slot_str_split PySem.F.type_str_split mt_split m_split (me_pv 0 (pv 0)) (ma_cons (mp_d me_str) ma_nil)) S.nd)
    (ms_cons (ms_for (vs := [5]) hF (passes_of rfl) rfl (mi_rng1 N.b_range (ma_cons (mp_d (me_blt call_len m_len N.b_len bt_len (ma_cons (mp_d (me_pv 4 (pv 4))) ma_nil))) ma_nil)) (mg_name 5 S.nd) (ms_cons (ms_set hF 6 (me_sub ix_seq m_ix (mp_d (me_pv 4 (pv 4))) (mp_d (me_pv 5 (pv 5)))) S.nd)
    (ms_cons (ms_set hF 7 me_int S.nd)
    (ms_cons (ms_set hF 8 (me_sm PySem.F.slot_str_find PySem.F.type_str_find mt_find m_find (me_pv 6 (pv 6)) (ma_cons (mp_d me_str) ma_nil)) S.nd)
    (ms_cons (ms_if (mt_cmp op_ge m_icmp.op (mp_d (me_pv 8 (pv 8))) (mp_d me_int)) (ms_one (ms_set hF 7 (me_call c_law_count (hr.mono (by decide)) (takes_of rfl rfl rfl rfl) (ma_cons (mp_d (me_slice (mp_d (me_pv 6 (pv 6))) mo_no (mo_at (me_pv 8 (pv 8))))) ma_nil)) S.nd)) ms_nil)
    (ms_one (ms_if (mt_cmp (op_eqA hr) m_eq.op (mp_d (me_pv 6 (pv 6))) (mp_d me_str)) (ms_cons (ms_if (mt_cmp (op_eqA hr) m_eq.op (mp_d (me_blt call_len m_len N.b_len bt_len (ma_cons (mp_ow 3 (pv 3)) ma_nil))) (mp_d me_int)) (ms_one (ms_ret (me_tup (ma_cons (mp_d me_str) (ma_cons (mp_d (me_pv 5 (pv 5))) ma_nil))))) ms_nil)
    (ms_cons (ms_set hF 9 (me_pop 3 (pv 3)) S.nd)
    (ms_cons (ms_set hF 10 (me_slice (mp_d (me_pv 2 (pv 2))) (mo_at (me_sub ix_seq m_ix (mp_d (me_pv 9 (pv 9))) (mp_d me_int))) mo_no) S.nd)
    (ms_cons (ms_if (mt_cmp op_gt m_icmp.op (mp_d (me_bin op_addA m_add (mp_d (me_sub ix_seq m_ix (mp_d (me_pv 9 (pv 9))) (mp_d me_int))) (mp_d (me_bin op_mulA m_mul (mp_d (me_blt call_len m_len N.b_len bt_len (ma_cons (mp_d (me_pv 10 (pv 10))) ma_nil))) (mp_d (me_sub ix_seq m_ix (mp_d (me_pv 9 (pv 9))) (mp_d me_int))))))) (mp_d me_int)) (ms_one (ms_ret (me_tup (ma_cons (mp_d me_str) (ma_cons (mp_d (me_pv 5 (pv 5))) ma_nil))))) ms_nil)
    (ms_one (ms_set hF 2 (me_bin op_addA m_add (mp_d (me_slice (mp_d (me_pv 2 (pv 2))) mo_no (mo_at (me_sub ix_seq m_ix (mp_d (me_pv 9 (pv 9))) (mp_d me_int))))) (mp_d (me_bin op_mulA m_mul (mp_d (me_pv 10 (pv 10))) (mp_d (me_sub ix_seq m_ix (mp_d (me_pv 9 (pv 9))) (mp_d me_int)))))) S.nd)))))) (ms_one (ms_if (mt_cmp (op_eqA hr) m_eq.op (mp_d (me_pv 7 (pv 7))) (mp_d me_int)) (ms_one (ms_ret (me_tup (ma_cons (mp_d me_str) (ma_cons (mp_d (me_pv 5 (pv 5))) ma_nil))))) (ms_one (ms_if (mw_and (mt_cmp op_ge m_icmp.op (mp_d (me_pv 8 (pv 8))) (mp_d me_int)) (mw_and1 (mt_cmp (op_eqA hr) m_eq.op (mp_d (me_slice (mp_d (me_pv 6 (pv 6))) (mo_at (me_bin op_addA m_add (mp_d (me_pv 8 (pv 8))) (mp_d me_int))) mo_no)) (mp_d me_str)))).pt (ms_cons (ms_if (mt_cmp (op_eqA hr) m_eq.op (mp_d (me_blt call_len m_len N.b_len bt_len (ma_cons (mp_ow 3 (pv 3)) ma_nil))) (mp_d me_int)) (ms_one (ms_ret (me_tup (ma_cons (mp_d me_str) (ma_cons (mp_d (me_pv 5 (pv 5))) ma_nil))))) ms_nil)
    (ms_one (ms_do (me_append 3 (pv 3) (ma_cons (mp_d (me_tup (ma_cons (mp_d (me_blt call_len m_len N.b_len bt_len (ma_cons (mp_d (me_pv 2 (pv 2))) ma_nil))) (ma_cons (mp_d (me_pv 7 (pv 7))) ma_nil)))) ma_nil))))) (ms_cons (ms_set hF 11 (me_call c_law_digits (hr.mono (by decide)) (takes_of rfl rfl rfl rfl) (ma_cons (mp_d (me_slice (mp_d (me_pv 6 (pv 6))) (mo_at (me_bin op_addA m_add (mp_d (me_pv 8 (pv 8))) (mp_d me_int))) mo_no)) (ma_cons (mp_d (me_pv 1 (pv 1))) ma_nil))) S.nd)
    (ms_cons (ms_if (mw_or (mt_cmp op_isN m_isN.op (mp_d (me_pv 11 (pv 11))) (mp_d me_non)) (mw_or1 (mt_cmp op_gt m_icmp.op (mp_d (me_bin op_addA m_add (mp_d (me_blt call_len m_len N.b_len bt_len (ma_cons (mp_d (me_pv 2 (pv 2))) ma_nil))) (mp_d (me_pv 7 (pv 7))))) (mp_d me_int)))).pt (ms_one (ms_ret (me_tup (ma_cons (mp_d me_str) (ma_cons (mp_d (me_pv 5 (pv 5))) ma_nil))))) ms_nil)
    (ms_one (ms_set hF 2 (me_bin op_addA m_add (mp_d (me_pv 2 (pv 2))) (mp_d (me_bin op_mulA m_mul (mp_d (me_lof (ml_lst (ma_cons (mp_d (me_pv 11 (pv 11))) ma_nil)))) (mp_d (me_pv 7 (pv 7)))))) S.nd)))))))))))))))
    (ms_cons (ms_if (mt_cmp op_gt m_icmp.op (mp_d (me_blt call_len m_len N.b_len bt_len (ma_cons (mp_ow 3 (pv 3)) ma_nil))) (mp_d me_int)) (ms_one (ms_ret (me_tup (ma_cons (mp_d me_str) (ma_cons (mp_d (me_blt call_len m_len N.b_len bt_len (ma_cons (mp_d (me_pv 4 (pv 4))) ma_nil))) ma_nil))))) ms_nil)
    (ms_one (ms_ret (me_tup (ma_cons (mp_d me_str) (ma_cons (mp_d (me_pv 2 (pv 2))) ma_nil)))))))))))
theorem ok_law_row {f : Addr} {fd : FuncData} (N : Nt P w K mg cls) (c_law_take : Cal P w K mg base (tab cls) "_law_take" 1 M_law_take) (c_law_some : Cal P w K mg base (tab cls) "_law_some" 2 M_law_some) (hf : Fun K "_law_row" "_law_row" st_law_row f fd) : FnOk P w K mg base (L2.CX P w) 3 f fd ["hand", "width"] (spM K (tab cls) M_law_row) := by
  have S : FnScope ["hand", "width", "row", "comings", "k", "many"] ["hand", "width"] (defScope st_law_row) := ⟨rfl, rfl, rfl, by decide +kernel, rfl, by decide +kernel, by decide +kernel⟩
  refine fn_ml (k := 2) hf S rfl fun cdv A outer s H E F hr hF => ?_
  exact (ms_cons (ms_set hF 2 (me_lof (ml_lst ma_nil)) S.nd)
    (ms_cons (ms_set hF 3 (me_typ call_tuple_of m_tuple N.b_tuple bt_tuple (ma_cons (mp_d (me_bin op_mulA m_mul (mp_d (me_lof (ml_lst (ma_cons (mp_d me_int) ma_nil)))) (mp_d (me_pv 1 (pv 1))))) ma_nil)) S.nd)
    (ms_cons (ms_for (vs := [4]) hF (passes_of rfl) rfl (mi_rng1 N.b_range (ma_cons (mp_d (me_call c_law_take (hr.mono (by decide)) (takes_of rfl rfl rfl rfl) (ma_cons (mp_ow 0 (pv 0)) (ma_cons (mp_d me_int) ma_nil)))) ma_nil)) (mg_name 4 S.nd) (ms_cons (ms_if (mt_cmp op_gt m_icmp.op (mp_d (me_call c_law_take (hr.mono (by decide)) (takes_of rfl rfl rfl rfl) (ma_cons (mp_ow 0 (pv 0)) (ma_cons (mp_d me_int) ma_nil)))) (mp_d me_int)) (ms_one (ms_set hF 3 (me_typ call_tuple_of m_tuple N.b_tuple bt_tuple (ma_cons (mp_d (me_call c_law_some (hr.mono (by decide)) (takes_of rfl rfl rfl rfl) (ma_cons (mp_ow 0 (pv 0)) (ma_cons (mp_d (me_pv 1 (pv 1))) (ma_cons (mp_d me_int) ma_nil))))) ma_nil)) S.nd)) ms_nil)
    (ms_cons (ms_set hF 5 (me_bin op_addA m_add (mp_d me_int) (mp_d (me_call c_law_take (hr.mono (by decide)) (takes_of rfl rfl rfl rfl) (ma_cons (mp_ow 0 (pv 0)) (ma_cons (mp_d me_int) ma_nil))))) S.nd)
    (ms_cons (ms_if (mw_and (mt_cmp op_lt m_icmp.op (mp_d (me_pv 1 (pv 1))) (mp_d me_int)) (mw_and (mt_cmp op_lt m_icmp.op (mp_d (me_blt call_len m_len N.b_len bt_len (ma_cons (mp_d (me_pv 2 (pv 2))) ma_nil))) (mp_d me_int)) (mw_and1 (mt_cmp (op_eqA hr) m_eq.op (mp_d (me_call c_law_take (hr.mono (by decide)) (takes_of rfl rfl rfl rfl) (ma_cons (mp_ow 0 (pv 0)) (ma_cons (mp_d me_int) ma_nil)))) (mp_d me_int))))).pt (ms_one (ms_set hF 5 (me_sub ix_seq m_ix (mp_d (me_lof (ml_lst (ma_cons (mp_d me_int) (ma_cons (mp_d me_int) (ma_cons (mp_d me_int) (ma_cons (mp_d me_int) (ma_cons (mp_d me_int) (ma_cons (mp_d me_int) (ma_cons (mp_d me_int) (ma_cons (mp_d me_int) (ma_cons (mp_d me_int) (ma_cons (mp_d me_int) ma_nil))))))))))))) (mp_d (me_call c_law_take (hr.mono (by decide)) (takes_of rfl rfl rfl rfl) (ma_cons (mp_ow 0 (pv 0)) (ma_cons (mp_d me_int) ma_nil))))) S.nd)) ms_nil)
    (ms_one (ms_set hF 2 (me_bin op_addA m_add (mp_d (me_pv 2 (pv 2))) (mp_d (me_bin op_mulA m_mul (mp_d (me_lof (ml_lst (ma_cons (mp_d (me_pv 3 (pv 3))) ma_nil)))) (mp_d (me_pv 5 (pv 5)))))) S.nd))))))
    (ms_one (ms_ret (me_pv 2 (pv 2)))))))
theorem ok_law_plain_word {f : Addr} {fd : FuncData} (N : Nt P w K mg cls) (c_law_some : Cal P w K mg base (tab cls) "_law_some" 2 M_law_some) (hf : Fun K "_law_plain_word" "_law_plain_word" st_law_plain_word f fd) : FnOk P w K mg base (L2.CX P w) 3 f fd ["hand", "width"] (spM K (tab cls) M_law_plain_word) := by
  have S : FnScope ["hand", "width", "x"] ["hand", "width"] (defScope st_law_plain_word) := ⟨rfl, rfl, rfl, by decide +kernel, rfl, by decide +kernel, by decide +kernel⟩
  refine fn_ml (k := 2) hf S rfl fun cdv A outer s H E F hr hF => ?_
  exact (ms_one (ms_ret (me_sm PySem.F.slot_str_join PySem.F.type_str_join mt_join m_join me_str (ma_cons (mp_d (me_lof (ml_lc hF [("x", 2)] rfl S.nd (mi_any (me_call c_law_some (hr.mono (by decide)) (takes_of rfl rfl rfl rfl) (ma_cons (mp_ow 0 (pv 0)) (ma_cons (mp_d (me_pv 1 (pv 1))) (ma_cons (mp_d me_int) ma_nil))))) (blkOk_by (N := ["hand", "width", "x"]) (sc := defScope st_law_plain_word) (by decide +kernel)) (fun s H C cl fp => (mg_name 2 S.nd)) (fun F s H C cl fp => mts_nil) (fun F s H C cl fp => (me_typ call_str_int m_str N.b_str bt_str (ma_cons (mp_d (me_pv 2 (pv 2))) ma_nil))) (s0 := s)))) ma_nil))))
theorem ok_law_number_word {f : Addr} {fd : FuncData} (N : Nt P w K mg cls) (c_law_take : Cal P w K mg base (tab cls) "_law_take" 1 M_law_take) (hf : Fun K "_law_number_word" "_law_number_word" st_law_number_word f fd) : FnOk P w K mg base (L2.CX P w) 2 f fd ["hand"] (spM K (tab cls) M_law_number_word) := by
  have S : FnScope ["hand", "way"] ["hand"] (defScope st_law_number_word) := ⟨rfl, rfl, rfl, by decide +kernel, rfl, by decide +kernel, by decide +kernel⟩
  refine fn_ml (k := 1) hf S rfl fun cdv A outer s H E F hr hF => ?_
  exact (ms_cons (ms_set hF 1 (me_call c_law_take (hr.mono (by decide)) (takes_of rfl rfl rfl rfl) (ma_cons (mp_ow 0 (pv 0)) (ma_cons (mp_d me_int) ma_nil))) S.nd)
    (ms_cons (ms_if (mt_cmp op_lt m_icmp.op (mp_d (me_pv 1 (pv 1))) (mp_d me_int)) (ms_one (ms_ret (me_typ call_str_int m_str N.b_str bt_str (ma_cons (mp_d (me_bin op_addA m_add (mp_d me_int) (mp_d (me_call c_law_take (hr.mono (by decide)) (takes_of rfl rfl rfl rfl) (ma_cons (mp_ow 0 (pv 0)) (ma_cons (mp_d me_int) ma_nil)))))) ma_nil)))) ms_nil)
    (ms_cons (ms_if (mt_cmp op_lt m_icmp.op (mp_d (me_pv 1 (pv 1))) (mp_d me_int)) (ms_one (ms_ret (me_typ call_str_int m_str N.b_str bt_str (ma_cons (mp_d (me_bin op_addA m_add (mp_d me_int) (mp_d (me_call c_law_take (hr.mono (by decide)) (takes_of rfl rfl rfl rfl) (ma_cons (mp_ow 0 (pv 0)) (ma_cons (mp_d me_int) ma_nil)))))) ma_nil)))) ms_nil)
    (ms_cons (ms_if (mt_cmp (op_eqA hr) m_eq.op (mp_d (me_pv 1 (pv 1))) (mp_d me_int)) (ms_one (ms_ret (me_typ call_str_int m_str N.b_str bt_str (ma_cons (mp_d (me_call c_law_take (hr.mono (by decide)) (takes_of rfl rfl rfl rfl) (ma_cons (mp_ow 0 (pv 0)) (ma_cons (mp_d me_int) ma_nil)))) ma_nil)))) ms_nil)
    (ms_one (ms_ret (me_sub ix_seq m_ix (mp_d (me_lof (ml_lst (ma_cons (mp_d me_str) (ma_cons (mp_d me_str) (ma_cons (mp_d me_str) (ma_cons (mp_d me_str) (ma_cons (mp_d me_str) (ma_cons (mp_d me_str) (ma_cons (mp_d me_str) (ma_cons (mp_d me_str) (ma_cons (mp_d me_str) (ma_cons (mp_d me_str) ma_nil))))))))))))) (mp_d (me_call c_law_take (hr.mono (by decide)) (takes_of rfl rfl rfl rfl) (ma_cons (mp_ow 0 (pv 0)) (ma_cons (mp_d me_int) ma_nil)))))))))))
theorem ok_law_word {f : Addr} {fd : FuncData} (N : Nt P w K mg cls) (c_law_take : Cal P w K mg base (tab cls) "_law_take" 1 M_law_take) (c_law_number_word : Cal P w K mg base (tab cls) "_law_number_word" 2 M_law_number_word) (c_law_plain_word : Cal P w K mg base (tab cls) "_law_plain_word" 3 M_law_plain_word) (hf : Fun K "_law_word" "_law_word" st_law_word f fd) : FnOk P w K mg base (L2.CX P w) 4 f fd ["hand", "width"] (spM K (tab cls) M_law_word) := by
  have S : FnScope ["hand", "width", "way", "word", "odd"] ["hand", "width"] (defScope st_law_word) := ⟨rfl, rfl, rfl, by decide +kernel, rfl, by decide +kernel, by decide +kernel⟩
  refine fn_ml (k := 3) hf S rfl fun cdv A outer s H E F hr hF => ?_
  exact (ms_cons (ms_set hF 2 (me_call c_law_take (hr.mono (by decide)) (takes_of rfl rfl rfl rfl) (ma_cons (mp_ow 0 (pv 0)) (ma_cons (mp_d me_int) ma_nil))) S.nd)
    (ms_cons (ms_if (mt_cmp op_lt m_icmp.op (mp_d (me_pv 2 (pv 2))) (mp_d me_int)) (ms_one (ms_ret me_str)) ms_nil)
    (ms_cons (ms_if (mt_cmp op_lt m_icmp.op (mp_d (me_pv 2 (pv 2))) (mp_d me_int)) (ms_one (ms_ret (me_bin op_addA m_add (mp_d (me_call c_law_number_word (hr.mono (by decide)) (takes_of rfl rfl rfl rfl) (ma_cons (mp_ow 0 (pv 0)) ma_nil))) (mp_d me_str)))) ms_nil)
    (ms_cons (ms_set hF 3 (me_call c_law_plain_word (hr.mono (by decide)) (takes_of rfl rfl rfl rfl) (ma_cons (mp_ow 0 (pv 0)) (ma_cons (mp_d (me_pv 1 (pv 1))) ma_nil))) S.nd)
    (ms_cons (ms_if (mt_cmp op_lt m_icmp.op (mp_d (me_pv 2 (pv 2))) (mp_d me_int)) (ms_one (ms_ret (me_pv 3 (pv 3)))) ms_nil)
    (ms_cons (ms_if (mt_cmp op_lt m_icmp.op (mp_d (me_pv 2 (pv 2))) (mp_d me_int)) (ms_one (ms_ret (me_bin op_addA m_add (mp_d (me_bin op_addA m_add (mp_d (me_call c_law_number_word (hr.mono (by decide)) (takes_of rfl rfl rfl rfl) (ma_cons (mp_ow 0 (pv 0)) ma_nil))) (mp_d me_str))) (mp_d (me_pv 3 (pv 3)))))) ms_nil)
    (ms_cons (ms_if (mt_cmp (op_eqA hr) m_eq.op (mp_d (me_pv 2 (pv 2))) (mp_d me_int)) (ms_one (ms_ret (me_bin op_addA m_add (mp_d (me_pv 3 (pv 3))) (mp_d (me_sub ix_seq m_ix (mp_d (me_lof (ml_lst (ma_cons (mp_d me_str) (ma_cons (mp_d me_str) (ma_cons (mp_d me_str) (ma_cons (mp_d me_str) (ma_cons (mp_d me_str) (ma_cons (mp_d me_str) ma_nil))))))))) (mp_d (me_call c_law_take (hr.mono (by decide)) (takes_of rfl rfl rfl rfl) (ma_cons (mp_ow 0 (pv 0)) (ma_cons (mp_d me_int) ma_nil))))))))) ms_nil)
    (ms_cons (ms_set hF 4 (me_lof (ml_lst (ma_cons (mp_d me_str) (ma_cons (mp_d me_str) (ma_cons (mp_d me_str) (ma_cons (mp_d me_str) (ma_cons (mp_d me_str) (ma_cons (mp_d me_str) (ma_cons (mp_d (me_bin op_addA m_add (mp_d me_str) (mp_d (me_pv 3 (pv 3))))) (ma_cons (mp_d (me_bin op_addA m_add (mp_d me_str) (mp_d (me_pv 3 (pv 3))))) (ma_cons (mp_d (me_slice (mp_d (me_pv 3 (pv 3))) (mo_at me_int) mo_no)) (ma_cons (mp_d (me_bin op_addA m_add (mp_d me_str) (mp_d (me_slice (mp_d (me_pv 3 (pv 3))) (mo_at me_int) mo_no)))) (ma_cons (mp_d (me_bin op_addA m_add (mp_d me_str) (mp_d (me_pv 3 (pv 3))))) (ma_cons (mp_d me_str) ma_nil)))))))))))))) S.nd)
    (ms_one (ms_ret (me_sub ix_seq m_ix (mp_d (me_pv 4 (pv 4))) (mp_d (me_call c_law_take (hr.mono (by decide)) (takes_of rfl rfl rfl rfl) (ma_cons (mp_ow 0 (pv 0)) (ma_cons (mp_d me_int) ma_nil)))))))))))))))
theorem ok_law_nest {f : Addr} {fd : FuncData} (N : Nt P w K mg cls) (c_law_take : Cal P w K mg base (tab cls) "_law_take" 1 M_law_take) (c_law_plain_word : Cal P w K mg base (tab cls) "_law_plain_word" 3 M_law_plain_word) (c_law_word : Cal P w K mg base (tab cls) "_law_word" 4 M_law_word) (hf : Fun K "_law_nest" "_law_nest" st_law_nest f fd) : FnOk P w K mg base (L2.CX P w) 5 f fd ["hand", "width"] (spM K (tab cls) M_law_nest) := by
  have S : FnScope ["hand", "width", "words", "deep", "k"] ["hand", "width"] (defScope st_law_nest) := ⟨rfl, rfl, rfl, by decide +kernel, rfl, by decide +kernel, by decide +kernel⟩
  refine fn_ml (k := 4) hf S rfl fun cdv A outer s H E F hr hF => ?_
  exact (ms_cons (ms_own hF 2 (ml_lst ma_nil) S.nd)
    (ms_cons (ms_set hF 3 (me_call c_law_take (hr.mono (by decide)) (takes_of rfl rfl rfl rfl) (ma_cons (mp_ow 0 (pv 0)) (ma_cons (mp_d me_int) ma_nil))) S.nd)
    (ms_cons (ms_for (vs := [4]) hF (passes_of rfl) rfl (mi_rng1 N.b_range (ma_cons (mp_d (me_pv 3 (pv 3))) ma_nil)) (mg_name 4 S.nd) (ms_cons (ms_do (me_append 2 (pv 2) (ma_cons (mp_d (me_bin op_addA m_add (mp_d (me_typ call_str_int m_str N.b_str bt_str (ma_cons (mp_d (me_bin op_addA m_add (mp_d me_int) (mp_d (me_call c_law_take (hr.mono (by decide)) (takes_of rfl rfl rfl rfl) (ma_cons (mp_ow 0 (pv 0)) (ma_cons (mp_d me_int) ma_nil)))))) ma_nil))) (mp_d me_str))) ma_nil)))
    (ms_one (ms_if (mt_cmp (op_eqA hr) m_eq.op (mp_d (me_call c_law_take (hr.mono (by decide)) (takes_of rfl rfl rfl rfl) (ma_cons (mp_ow 0 (pv 0)) (ma_cons (mp_d me_int) ma_nil)))) (mp_d me_int)) (ms_one (ms_do (me_append 2 (pv 2) (ma_cons (mp_d (me_call c_law_plain_word (hr.mono (by decide)) (takes_of rfl rfl rfl rfl) (ma_cons (mp_ow 0 (pv 0)) (ma_cons (mp_d (me_pv 1 (pv 1))) ma_nil)))) ma_nil)))) ms_nil))))
    (ms_cons (ms_own hF 2 (ml_bin op_addA ml_add (mp_ow 2 (pv 2)) (mp_d (me_lof (ml_lc hF [("k", 4)] rfl S.nd (mi_rng1 N.b_range (ma_cons (mp_d (me_call c_law_take (hr.mono (by decide)) (takes_of rfl rfl rfl rfl) (ma_cons (mp_ow 0 (pv 0)) (ma_cons (mp_d me_int) ma_nil)))) ma_nil)) (blkOk_by (N := ["hand", "width", "words", "deep", "k"]) (sc := defScope st_law_nest) (by decide +kernel)) (fun s H C cl fp => (mg_name 4 S.nd)) (fun F s H C cl fp => mts_nil) (fun F s H C cl fp => (me_call c_law_word (hr.mono (by decide)) takes0 (ma_cons (mp_ow 0 (pv 0)) (ma_cons (mp_d (me_pv 1 (pv 1))) ma_nil)))) (s0 := s))))) S.nd)
    (ms_cons (ms_for (vs := [4]) hF (passes_of rfl) rfl (mi_rng1 N.b_range (ma_cons (mp_d (me_blt (call_maxA rfl) m_max N.b_max bt_max (ma_cons (mp_d me_int) (ma_cons (mp_d (me_bin op_addA m_add (mp_d (me_bin op_sub m_sub (mp_d (me_pv 3 (pv 3))) (mp_d me_int))) (mp_d (me_call c_law_take (hr.mono (by decide)) (takes_of rfl rfl rfl rfl) (ma_cons (mp_ow 0 (pv 0)) (ma_cons (mp_d me_int) ma_nil)))))) ma_nil)))) ma_nil)) (mg_name 4 S.nd) (ms_cons (ms_do (me_append 2 (pv 2) (ma_cons (mp_d me_str) ma_nil)))
    (ms_one (ms_if (mt_cmp (op_eqA hr) m_eq.op (mp_d (me_call c_law_take (hr.mono (by decide)) (takes_of rfl rfl rfl rfl) (ma_cons (mp_ow 0 (pv 0)) (ma_cons (mp_d me_int) ma_nil)))) (mp_d me_int)) (ms_one (ms_do (me_append 2 (pv 2) (ma_cons (mp_d (me_call c_law_plain_word (hr.mono (by decide)) (takes_of rfl rfl rfl rfl) (ma_cons (mp_ow 0 (pv 0)) (ma_cons (mp_d (me_pv 1 (pv 1))) ma_nil)))) ma_nil)))) ms_nil))))
    (ms_one (ms_ret (me_frz hF 2 (pv 2)))))))))
theorem ok_law_edge {f : Addr} {fd : FuncData} (N : Nt P w K mg cls) (c_law_plain_word : Cal P w K mg base (tab cls) "_law_plain_word" 3 M_law_plain_word) (c_law_take : Cal P w K mg base (tab cls) "_law_take" 1 M_law_take) (hf : Fun K "_law_edge" "_law_edge" st_law_edge f fd) : FnOk P w K mg base (L2.CX P w) 4 f fd ["hand", "width"] (spM K (tab cls) M_law_edge) := by
  have S : FnScope ["hand", "width", "word", "times", "words"] ["hand", "width"] (defScope st_law_edge) := ⟨rfl, rfl, rfl, by decide +kernel, rfl, by decide +kernel, by decide +kernel⟩
  refine fn_ml (k := 3) hf S rfl fun cdv A outer s H E F hr hF => ?_
  exact (ms_cons (ms_set hF 2 (me_call c_law_plain_word (hr.mono (by decide)) (takes_of rfl rfl rfl rfl) (ma_cons (mp_ow 0 (pv 0)) (ma_cons (mp_d (me_pv 1 (pv 1))) ma_nil))) S.nd)
    (ms_cons (ms_set hF 3 (me_bin op_addA m_add (mp_d me_int) (mp_d (me_call c_law_take (hr.mono (by decide)) (takes_of rfl rfl rfl rfl) (ma_cons (mp_ow 0 (pv 0)) (ma_cons (mp_d me_int) ma_nil))))) S.nd)
    (ms_cons (ms_set hF 4 (me_lof (ml_lst (ma_cons (mp_d (me_bin op_addA m_add (mp_d (me_typ call_str_int m_str N.b_str bt_str (ma_cons (mp_d (me_pv 3 (pv 3))) ma_nil))) (mp_d me_str))) (ma_cons (mp_d (me_bin op_addA m_add (mp_d (me_bin op_addA m_add (mp_d (me_typ call_str_int m_str N.b_str bt_str (ma_cons (mp_d (me_bin op_addA m_add (mp_d (me_bin op_sub m_sub (mp_d (me_bin op_fdiv m_fdiv (mp_d me_int) (mp_d (me_pv 3 (pv 3))))) (mp_d me_int))) (mp_d (me_call c_law_take (hr.mono (by decide)) (takes_of rfl rfl rfl rfl) (ma_cons (mp_ow 0 (pv 0)) (ma_cons (mp_d me_int) ma_nil)))))) ma_nil))) (mp_d me_str))) (mp_d (me_pv 2 (pv 2))))) (ma_cons (mp_d me_str) ma_nil))))) S.nd)
    (ms_cons (ms_if (mt_cmp (op_eqA hr) m_eq.op (mp_d (me_call c_law_take (hr.mono (by decide)) (takes_of rfl rfl rfl rfl) (ma_cons (mp_ow 0 (pv 0)) (ma_cons (mp_d me_int) ma_nil)))) (mp_d me_int)) (ms_one (ms_set hF 4 (me_bin op_addA m_add (mp_d (me_lof (ml_lst (ma_cons (mp_d (me_pv 2 (pv 2))) ma_nil)))) (mp_d (me_pv 4 (pv 4)))) S.nd)) ms_nil)
    (ms_cons (ms_if (mt_cmp (op_eqA hr) m_eq.op (mp_d (me_call c_law_take (hr.mono (by decide)) (takes_of rfl rfl rfl rfl) (ma_cons (mp_ow 0 (pv 0)) (ma_cons (mp_d me_int) ma_nil)))) (mp_d me_int)) (ms_one (ms_set hF 4 (me_bin op_addA m_add (mp_d (me_pv 4 (pv 4))) (mp_d (me_lof (ml_lst (ma_cons (mp_d (me_pv 2 (pv 2))) ma_nil))))) S.nd)) ms_nil)
    (ms_one (ms_ret (me_pv 4 (pv 4)))))))))
theorem ok_law_sign {f : Addr} {fd : FuncData} (N : Nt P w K mg cls) (c_law_take : Cal P w K mg base (tab cls) "_law_take" 1 M_law_take) (hf : Fun K "_law_sign" "_law_sign" st_law_sign f fd) : FnOk P w K mg base (L2.CX P w) 2 f fd ["hand"] (spM K (tab cls) M_law_sign) := by
  have S : FnScope ["hand", "way", "signs"] ["hand"] (defScope st_law_sign) := ⟨rfl, rfl, rfl, by decide +kernel, rfl, by decide +kernel, by decide +kernel⟩
  refine fn_ml (k := 1) hf S rfl fun cdv A outer s H E F hr hF => ?_
  exact (ms_cons (ms_set hF 1 (me_call c_law_take (hr.mono (by decide)) (takes_of rfl rfl rfl rfl) (ma_cons (mp_ow 0 (pv 0)) (ma_cons (mp_d me_int) ma_nil))) S.nd)
    (ms_cons (ms_if (mt_cmp op_lt m_icmp.op (mp_d (me_pv 1 (pv 1))) (mp_d me_int)) (ms_one (ms_ret (me_sub ix_seq m_ix (mp_d me_str) (mp_d (me_pv 1 (pv 1)))))) ms_nil)
    (ms_cons (ms_set hF 2 me_str S.nd)
    (ms_cons (ms_set hF 2 (me_bin op_addA m_add (mp_d (me_pv 2 (pv 2))) (mp_d me_str)) S.nd)
    (ms_one (ms_ret (me_sub ix_seq m_ix (mp_d (me_pv 2 (pv 2))) (mp_d (me_call c_law_take (hr.mono (by decide)) (takes_of rfl rfl rfl rfl) (ma_cons (mp_ow 0 (pv 0)) (ma_cons (mp_d (me_blt call_len m_len N.b_len bt_len (ma_cons (mp_d (me_pv 2 (pv 2))) ma_nil))) ma_nil)))))))))))
theorem ok_law_text {f : Addr} {fd : FuncData} (N : Nt P w K mg cls) (c_law_take : Cal P w K mg base (tab cls) "_law_take" 1 M_law_take) (c_law_sign : Cal P w K mg base (tab cls) "_law_sign" 2 M_law_sign) (c_law_nest : Cal P w K mg base (tab cls) "_law_nest" 5 M_law_nest) (c_law_edge : Cal P w K mg base (tab cls) "_law_edge" 4 M_law_edge) (c_law_written : Cal P w K mg base (tab cls) "_law_written" 2 M_law_written) (c_law_word : Cal P w K mg base (tab cls) "_law_word" 4 M_law_word) (hf : Fun K "_law_text" "_law_text" st_law_text f fd) : FnOk P w K mg base (L2.CX P w) 6 f fd ["hand", "width", "row"] (spM K (tab cls) M_law_text) := by
  have S : FnScope ["hand", "width", "row", "way", "words", "place", "k"] ["hand", "width", "row"] (defScope st_law_text) := ⟨rfl, rfl, rfl, by decide +kernel, rfl, by decide +kernel, by decide +kernel⟩
  refine fn_ml (k := 5) hf S rfl fun cdv A outer s H E F hr hF => ?_
  exact (ms_cons (ms_set hF 3 (me_call c_law_take (hr.mono (by decide)) (takes_of rfl rfl rfl rfl) (ma_cons (mp_ow 0 (pv 0)) (ma_cons (mp_d me_int) ma_nil))) S.nd)
    (ms_cons (ms_if (mt_cmp (op_eqA hr) m_eq.op (mp_d (me_pv 3 (pv 3))) (mp_d me_int)) (ms_one (ms_ret (me_sm PySem.F.slot_str_join PySem.F.type_str_join mt_join m_join me_str (ma_cons (mp_d (me_lof (ml_lc hF [("k", 6)] rfl S.nd (mi_rng1 N.b_range (ma_cons (mp_d (me_call c_law_take (hr.mono (by decide)) (takes_of rfl rfl rfl rfl) (ma_cons (mp_ow 0 (pv 0)) (ma_cons (mp_d me_int) ma_nil)))) ma_nil)) (blkOk_by (N := ["hand", "width", "row", "way", "words", "place", "k"]) (sc := defScope st_law_text) (by decide +kernel)) (fun s H C cl fp => (mg_name 6 S.nd)) (fun F s H C cl fp => mts_nil) (fun F s H C cl fp => (me_call c_law_sign (hr.mono (by decide)) takes0 (ma_cons (mp_ow 0 (pv 0)) ma_nil))) (s0 := s)))) ma_nil)))) ms_nil)
    (ms_cons (ms_if (mt_cmp (op_eqA hr) m_eq.op (mp_d (me_pv 3 (pv 3))) (mp_d me_int)) (ms_one (ms_ret (me_sm PySem.F.slot_str_join PySem.F.type_str_join mt_join m_join me_str (ma_cons (mp_d (me_call c_law_nest (hr.mono (by decide)) (takes_of rfl rfl rfl rfl) (ma_cons (mp_ow 0 (pv 0)) (ma_cons (mp_d (me_pv 1 (pv 1))) ma_nil)))) ma_nil)))) ms_nil)
    (ms_cons (ms_if (mt_cmp (op_eqA hr) m_eq.op (mp_d (me_pv 3 (pv 3))) (mp_d me_int)) (ms_one (ms_ret (me_sm PySem.F.slot_str_join PySem.F.type_str_join mt_join m_join me_str (ma_cons (mp_d (me_call c_law_edge (hr.mono (by decide)) (takes_of rfl rfl rfl rfl) (ma_cons (mp_ow 0 (pv 0)) (ma_cons (mp_d (me_pv 1 (pv 1))) ma_nil)))) ma_nil)))) ms_nil)
    (ms_cons (ms_if (mt_cmp (op_eqA hr) m_eq.op (mp_d (me_pv 3 (pv 3))) (mp_d me_int)) (ms_cons (ms_set hF 4 (me_sm PySem.F.slot_str_split PySem.F.type_str_split mt_split m_split (me_call c_law_written (hr.mono (by decide)) (takes_of rfl rfl rfl rfl) (ma_cons (mp_d (me_pv 2 (pv 2))) ma_nil)) (ma_cons (mp_d me_str) ma_nil)) S.nd)
    (ms_cons (ms_set hF 5 (me_call c_law_take (hr.mono (by decide)) (takes_of rfl rfl rfl rfl) (ma_cons (mp_ow 0 (pv 0)) (ma_cons (mp_d (me_bin op_addA m_add (mp_d (me_blt call_len m_len N.b_len bt_len (ma_cons (mp_d (me_pv 4 (pv 4))) ma_nil))) (mp_d me_int))) ma_nil))) S.nd)
    (ms_one (ms_ret (me_sm PySem.F.slot_str_join PySem.F.type_str_join mt_join m_join me_str (ma_cons (mp_d (me_bin op_addA m_add (mp_d (me_bin op_addA m_add (mp_d (me_slice (mp_d (me_pv 4 (pv 4))) mo_no (mo_at (me_pv 5 (pv 5))))) (mp_d (me_lof (ml_lst (ma_cons (mp_d (me_call c_law_word (hr.mono (by decide)) (takes_of rfl rfl rfl rfl) (ma_cons (mp_ow 0 (pv 0)) (ma_cons (mp_d (me_pv 1 (pv 1))) ma_nil)))) ma_nil)))))) (mp_d (me_slice (mp_d (me_pv 4 (pv 4))) (mo_at (me_pv 5 (pv 5))) mo_no)))) ma_nil)))))) ms_nil)
    (ms_one (ms_ret (me_sm PySem.F.slot_str_join PySem.F.type_str_join mt_join m_join me_str (ma_cons (mp_d (me_lof (ml_lc hF [("k", 6)] rfl S.nd (mi_rng1 N.b_range (ma_cons (mp_d (me_call c_law_take (hr.mono (by decide)) (takes_of rfl rfl rfl rfl) (ma_cons (mp_ow 0 (pv 0)) (ma_cons (mp_d me_int) ma_nil)))) ma_nil)) (blkOk_by (N := ["hand", "width", "row", "way", "words", "place", "k"]) (sc := defScope st_law_text) (by decide +kernel)) (fun s H C cl fp => (mg_name 6 S.nd)) (fun F s H C cl fp => mts_nil) (fun F s H C cl fp => (me_call c_law_word (hr.mono (by decide)) takes0 (ma_cons (mp_ow 0 (pv 0)) (ma_cons (mp_d (me_pv 1 (pv 1))) ma_nil)))) (s0 := s)))) ma_nil)))))))))
theorem ok_law_asked {f : Addr} {fd : FuncData} (N : Nt P w K mg cls) (c_read_row : Cal P w K mg base (tab cls) "read_row" 5 M_read_row) (hf : Fun K "_law_asked" "_law_asked" st_law_asked f fd) : FnOk P w K mg base (L2.CX P w) 6 f fd ["text", "width"] (spM K (tab cls) M_law_asked) := by
  have S : FnScope ["text", "width", "told", "e"] ["text", "width"] (defScope st_law_asked) := ⟨rfl, rfl, rfl, by decide +kernel, rfl, by decide +kernel, by decide +kernel⟩
  refine fn_ml (k := 5) hf S rfl fun cdv A outer s H E F hr hF => ?_
  exact (ms_cons (ms_tryAs hF 3 hit_BadWord N.t_BadWord rfl rfl S.nd ⟨rfl, by decide, .inl N.k_BadWord⟩ (takes_of rfl rfl rfl rfl) (fun W pn xe tk => (ms_one (ms_setV hF 2 (mv_tup (mvs_cons (mv_fz me_str) fun F hF0 => (mvs_cons (mv_call c_read_row (hr.mono (by decide)) tk (ma_cons (mp_d (me_pv 0 (pv 0))) (ma_cons (mp_d (me_pv 1 (pv 1))) ma_nil))) fun F hF0 => (mvs_cons (mv_fz me_bl) fun F hF0 => mvs_nil)))) S.nd))) (fun a oe cls d pn hz hf => (ms_one (ms_setV (hF.at a cls d) 2 (mv_fz (me_tup (ma_cons (mp_d me_str) (ma_cons (mp_d (by exact (me_xf 2 3 0 N.xc_BadWord N.no_BadWord_place rfl nde_BadWord hz hf (pv 3)))) (ma_cons (mp_d (me_and (by exact (me_xis xis_BadWord_ValueError 3 (.ty _) N.h_xis_BadWord_ValueError hz hf (pv 3) (pe_tyn N.b_ValueError bt_ValueError) N.b_isinstance)) (me_one (me_not (by exact (me_xis xis_BadWord_BadLine 3 (.own _) N.h_xis_BadWord_BadLine hz hf (pv 3) (pe_glob (by rfl) N.k_BadLine (by rfl)) N.b_isinstance)))))) ma_nil))))) S.nd))))
    (ms_one (ms_retV (mv_take 2 (pv 2)))))
theorem ok_law_base_told {f : Addr} {fd : FuncData} (N : Nt P w K mg cls) (c_read_row : Cal P w K mg base (tab cls) "read_row" 5 M_read_row) (hf : Fun K "_law_base_told" "_law_base_told" st_law_base_told f fd) : FnOk P w K mg base (L2.CX P w) 6 f fd ["text", "width"] (spM K (tab cls) M_law_base_told) := by
  have S : FnScope ["text", "width", "told", "e"] ["text", "width"] (defScope st_law_base_told) := ⟨rfl, rfl, rfl, by decide +kernel, rfl, by decide +kernel, by decide +kernel⟩
  refine fn_ml (k := 5) hf S rfl fun cdv A outer s H E F hr hF => ?_
  exact (ms_cons (ms_set hF 2 me_bl S.nd)
    (ms_cons (ms_tryAs hF 3 hit_LightsError N.t_LightsError rfl rfl S.nd ⟨rfl, by decide, .inl N.k_LightsError⟩ (takes_of rfl rfl rfl rfl) (fun W pn xe tk => (ms_one (ms_doV (mv_call c_read_row (hr.mono (by decide)) tk (ma_cons (mp_d (me_pv 0 (pv 0))) (ma_cons (mp_d (me_pv 1 (pv 1))) ma_nil)))))) (fun a oe cls d pn hz hf => (ms_one (ms_set (hF.at a cls d) 2 (by exact (me_xis xis_LightsError_ValueError 3 (.ty _) N.h_xis_LightsError_ValueError hz hf (pv 3) (pe_tyn N.b_ValueError bt_ValueError) N.b_isinstance)) S.nd))))
    (ms_one (ms_ret (me_pv 2 (pv 2))))))
theorem ok_law_read_right {f : Addr} {fd : FuncData} (N : Nt P w K mg cls) (c_law_read : Cal P w K mg base (tab cls) "_law_read" 2 M_law_read) (c_law_asked : Cal P w K mg base (tab cls) "_law_asked" 6 M_law_asked) (c_law_same : Cal P w K mg base (tab cls) "_law_same" 8 (M_law_same 6)) (c_law_base_told : Cal P w K mg base (tab cls) "_law_base_told" 6 M_law_base_told) (hf : Fun K "_law_read_right" "_law_read_right" st_law_read_right f fd) : FnOk P w K mg base (L2.CX P w) 9 f fd ["text", "width"] (spM K (tab cls) M_law_read_right) := by
  have S : FnScope ["text", "width", "due", "told", "again"] ["text", "width"] (defScope st_law_read_right) := ⟨rfl, rfl, rfl, by decide +kernel, rfl, by decide +kernel, by decide +kernel⟩
  refine fn_ml (k := 8) hf S rfl fun cdv A outer s H E F hr hF => ?_
  exact (ms_cons (ms_set hF 2 (me_call c_law_read (hr.mono (by decide)) (takes_of rfl rfl rfl rfl) (ma_cons (mp_d (me_pv 0 (pv 0))) (ma_cons (mp_d (me_pv 1 (pv 1))) ma_nil))) S.nd)
    (ms_cons (ms_setV hF 3 (mv_call c_law_asked (hr.mono (by decide)) (takes_of rfl rfl rfl rfl) (ma_cons (mp_d (me_pv 0 (pv 0))) (ma_cons (mp_d (me_pv 1 (pv 1))) ma_nil))) S.nd)
    (ms_cons (ms_if (mt_bor (mw_or (mt_cmp (op_neA hr) m_ne.op (mp_d (me_sub ix_seq m_ix (mp_d (me_pv 3 (pv 3))) (mp_d me_int))) (mp_d (me_sub ix_seq m_ix (mp_d (me_pv 2 (pv 2))) (mp_d me_int)))) (mw_or (mt_not (mt_tru (mp_d (me_sub ix_seq m_ix (mp_d (me_pv 3 (pv 3))) (mp_d me_int))))) (mw_or1 (mt_not (mt_tru (mp_d (me_call c_law_same (hr.mono (by decide)) (takes_of rfl rfl rfl rfl) (ma_cons (mp_d (me_sub ix_seq m_ix (mp_d (me_pv 3 (pv 3))) (mp_d me_int))) (ma_cons (mp_d (me_sub ix_seq m_ix (mp_d (me_pv 2 (pv 2))) (mp_d me_int))) ma_nil))))))))).pt) (ms_one (ms_ret me_bl)) ms_nil)
    (ms_cons (ms_if (mt_cmp (op_eqA hr) m_eq.op (mp_d (me_sub ix_seq m_ix (mp_d (me_pv 2 (pv 2))) (mp_d me_int))) (mp_d me_str)) (ms_one (ms_ret (me_call c_law_base_told (hr.mono (by decide)) (takes_of rfl rfl rfl rfl) (ma_cons (mp_d (me_pv 0 (pv 0))) (ma_cons (mp_d (me_pv 1 (pv 1))) ma_nil))))) ms_nil)
    (ms_cons (ms_do (me_pappend (mk_ix (1) (mk_var 3 (pv 3)) pe_int) fun F hF0 => (ma_cons (mp_d (me_typ call_tuple_of m_tuple N.b_tuple bt_tuple (ma_cons (mp_d (me_bin op_mulA m_mul (mp_d (me_lof (ml_lst (ma_cons (mp_d me_int) ma_nil)))) (mp_d (me_pv 1 (pv 1))))) ma_nil))) ma_nil)))
    (ms_cons (ms_set hF 4 (me_frzV (mv_call c_law_asked (hr.mono (by decide)) (takes_of rfl rfl rfl rfl) (ma_cons (mp_d (me_pv 0 (pv 0))) (ma_cons (mp_d (me_pv 1 (pv 1))) ma_nil)))) S.nd)
    (ms_one (ms_ret (me_bor (me_and (me_cmp (op_eqA hr) m_eq.op (mp_d (me_sub ix_seq m_ix (mp_d (me_pv 4 (pv 4))) (mp_d me_int))) (mp_d me_str)) (me_and (me_cmp (op_eqA hr) m_eq.op (mp_d (me_sub ix_seq m_ix (mp_d (me_pv 4 (pv 4))) (mp_d me_int))) (mp_d (me_sub ix_seq m_ix (mp_d (me_pv 2 (pv 2))) (mp_d me_int)))) (me_one (me_cmp (op_eqA hr) m_eq.op (mp_d (me_blt call_len m_len N.b_len bt_len (ma_cons (mp_d (me_sub ix_seq m_ix (mp_d (me_pv 3 (pv 3))) (mp_d me_int))) ma_nil))) (mp_d (me_bin op_addA m_add (mp_d (me_blt call_len m_len N.b_len bt_len (ma_cons (mp_d (me_sub ix_seq m_ix (mp_d (me_pv 2 (pv 2))) (mp_d me_int))) ma_nil))) (mp_d me_int))))))))))))))))
theorem ok_law_written_right {f : Addr} {fd : FuncData} (N : Nt P w K mg cls) (c_law_written : Cal P w K mg base (tab cls) "_law_written" 2 M_law_written) (c_row_text : Cal P w K mg base (tab cls) "row_text" 2 M_row_text) (c_law_same : Cal P w K mg base (tab cls) "_law_same" 8 (M_law_same 6)) (hf : Fun K "_law_written_right" "_law_written_right" st_law_written_right f fd) : FnOk P w K mg base (L2.CX P w) 9 f fd ["row"] (spM K (tab cls) M_law_written_right) := by
  have S : FnScope ["row", "passed", "due"] ["row"] (defScope st_law_written_right) := ⟨rfl, rfl, rfl, by decide +kernel, rfl, by decide +kernel, by decide +kernel⟩
  refine fn_ml (k := 8) hf S rfl fun cdv A outer s H E F hr hF => ?_
  exact (ms_cons (ms_own hF 1 (ml_typ call_list_of m_list N.b_list bt_list (ma_cons (mp_d (me_pv 0 (pv 0))) ma_nil)) S.nd)
    (ms_cons (ms_set hF 2 (me_call c_law_written (hr.mono (by decide)) (takes_of rfl rfl rfl rfl) (ma_cons (mp_d (me_pv 0 (pv 0))) ma_nil)) S.nd)
    (ms_cons (ms_if (mt_bor (mw_or (mt_not (mt_tru (mp_d (me_call c_law_same (hr.mono (by decide)) (takes_of rfl rfl rfl rfl) (ma_cons (mp_d (me_call c_row_text (hr.mono (by decide)) (takes_of rfl rfl rfl rfl) (ma_cons (mp_d (me_pv 1 (pv 1))) ma_nil))) (ma_cons (mp_d (me_pv 2 (pv 2))) ma_nil)))))) (mw_or1 (mt_cmp (op_neA hr) m_ne.op (mp_d (me_pv 1 (pv 1))) (mp_d (me_pv 0 (pv 0)))))).pt) (ms_one (ms_ret me_bl)) ms_nil)
    (ms_cons (ms_do (me_append 1 (pv 1) (ma_cons (mp_d (me_typ call_tuple_of m_tuple N.b_tuple bt_tuple (ma_cons (mp_d (me_bin op_mulA m_mul (mp_d (me_lof (ml_lst (ma_cons (mp_d me_int) ma_nil)))) (mp_d me_int))) ma_nil))) ma_nil)))
    (ms_one (ms_ret (me_cmp (op_eqA hr) m_eq.op (mp_d (me_call c_row_text (hr.mono (by decide)) (takes_of rfl rfl rfl rfl) (ma_cons (mp_d (me_typ call_tuple_of m_tuple N.b_tuple bt_tuple (ma_cons (mp_d (me_pv 0 (pv 0))) ma_nil))) ma_nil))) (mp_d (me_pv 2 (pv 2))))))))))
theorem ok_law {f : Addr} {fd : FuncData} (N : Nt P w K mg cls) (c_law_hand : Cal P w K mg base (tab cls) "_law_hand" 2 M_law_hand) (c_law_take : Cal P w K mg base (tab cls) "_law_take" 1 M_law_take) (c_law_row : Cal P w K mg base (tab cls) "_law_row" 3 M_law_row) (c_law_written_right : Cal P w K mg base (tab cls) "_law_written_right" 9 M_law_written_right) (c_law_written : Cal P w K mg base (tab cls) "_law_written" 2 M_law_written) (c_law_read_right : Cal P w K mg base (tab cls) "_law_read_right" 9 M_law_read_right) (c_law_text : Cal P w K mg base (tab cls) "_law_text" 6 M_law_text) (hf : Fun K "law" "law" st_law f fd) : FnOk P w K mg base (L2.CX P w) 10 f fd ["script"] (spM K (tab cls) M_law) := by
  have S : FnScope ["script", "hand", "width", "row"] ["script"] (defScope st_law) := ⟨rfl, rfl, rfl, by decide +kernel, rfl, by decide +kernel, by decide +kernel⟩
  refine fn_ml (k := 9) hf S rfl fun cdv A outer s H E F hr hF => ?_
  exact (ms_cons (ms_own hF 1 (ml_call c_law_hand (hr.mono (by decide)) (takes_of rfl rfl rfl rfl) (ma_cons (mp_d (me_pv 0 (pv 0))) (ma_cons (mp_d me_int) ma_nil))) S.nd)
    (ms_cons (ms_set hF 2 (me_bin op_addA m_add (mp_d me_int) (mp_d (me_call c_law_take (hr.mono (by decide)) (takes_of rfl rfl rfl rfl) (ma_cons (mp_ow 1 (pv 1)) (ma_cons (mp_d me_int) ma_nil))))) S.nd)
    (ms_cons (ms_if (mt_cmp (op_eqA hr) m_eq.op (mp_d (me_call c_law_take (hr.mono (by decide)) (takes_of rfl rfl rfl rfl) (ma_cons (mp_ow 1 (pv 1)) (ma_cons (mp_d me_int) ma_nil)))) (mp_d me_int)) (ms_one (ms_set hF 2 (me_bin op_addA m_add (mp_d me_int) (mp_d (me_call c_law_take (hr.mono (by decide)) (takes_of rfl rfl rfl rfl) (ma_cons (mp_ow 1 (pv 1)) (ma_cons (mp_d me_int) ma_nil))))) S.nd)) ms_nil)
    (ms_cons (ms_set hF 3 (me_call c_law_row (hr.mono (by decide)) (takes_of rfl rfl rfl rfl) (ma_cons (mp_ow 1 (pv 1)) (ma_cons (mp_d (me_pv 2 (pv 2))) ma_nil))) S.nd)
    (ms_cons (ms_if (mw_or (mt_not (mt_tru (mp_d (me_call c_law_written_right (hr.mono (by decide)) (takes_of rfl rfl rfl rfl) (ma_cons (mp_d (me_pv 3 (pv 3))) ma_nil))))) (mw_or1 (mt_not (mt_tru (mp_d (me_call c_law_read_right (hr.mono (by decide)) (takes_of rfl rfl rfl rfl) (ma_cons (mp_d (me_call c_law_written (hr.mono (by decide)) (takes_of rfl rfl rfl rfl) (ma_cons (mp_d (me_pv 3 (pv 3))) ma_nil))) (ma_cons (mp_d (me_pv 2 (pv 2))) ma_nil)))))))).pt (ms_one (ms_ret me_bl)) ms_nil)
    (ms_one (ms_ret (me_call c_law_read_right (hr.mono (by decide)) (takes_of rfl rfl rfl rfl) (ma_cons (mp_d (me_ofV (mv_callV c_law_text (hr.mono (by decide)) (takes_of rfl rfl rfl rfl) (mv_call c_law_hand (hr.mono (by decide)) (takes_of rfl rfl rfl rfl) (ma_cons (mp_d (me_pv 0 (pv 0))) (ma_cons (mp_d me_int) ma_nil))) fun F hF0 => (ma_cons (mp_d (me_pv 2 (pv 2))) (ma_cons (mp_d (me_pv 3 (pv 3))) ma_nil))))) (ma_cons (mp_d (me_pv 2 (pv 2))) ma_nil))))))))))
end
end Gk
set_option Elab.async false
set_option linter.all false
set_option maxRecDepth 100000
set_option maxHeartbeats 8000000
namespace Gk
open PySem L2 Ml
def clsOf (CLightsError CBadWord CBadLine CRowReader : Addr) : Nat → Addr
  | 1 => CLightsError
  | 2 => CBadWord
  | 3 => CBadLine
  | 4 => CRowReader
  | _ => 0
def st_xBadWord : Stmt := (clsB (top 2)).getD 0 (.Pass ⟨0, 0, 0, 0⟩)
/-- what the law is asked, and owes -/
def spLaw (K : PySem.W.Frag) : Sp := fun vs H Q _ => ∃ (a : Addr) (ns : List Int), vs = [.ref a] ∧ SqL K H a (ns.map V.int) ∧ ns.length ≤ 63 ∧ (∀ z ∈ ns, Builtin.Int.intBits z ≤ 1048576) ∧ ∀ H1, Q (.bl true) H1
def Right : Prop := ∀ ns : List Int, ns.length ≤ 63 → (∀ z ∈ ns, Builtin.Int.intBits z ≤ 1048576) → ∃ outs, M_law [.fz (.ro false (ns.map D.int))] = .ret (.fz (.bl true)) outs
theorem all_mk (hmath : Right) {P : Program} {w : World} {K : PySem.W.Frag} {h : Heap} {mg : Str → Option Value} {fa : Addr} (X : K.In h) (G : h.Ns mainGlobals mg) (hfa : mg "law" = some (.ref fa))
    {CLightsError CBadWord CBadLine CRowReader f_number_of f_comings_word f_row_text f_comings_of f_split_word f_RowReader___init f_RowReader_room f_RowReader_add f_RowReader_end_group f_RowReader_begin_group f_RowReader_read_word f_read_row f_law_cell f_law_hand f_law_take f_law_some f_law_is_int f_law_same f_law_stretch f_law_written f_law_count f_law_digits f_law_read f_law_row f_law_plain_word f_law_number_word f_law_word f_law_nest f_law_edge f_law_sign f_law_text f_law_asked f_law_base_told f_law_read_right f_law_written_right f_law fx_BadWord : Addr}
    {od_0 an_0 od_1 an_1 od_2 an_2 od_3 an_3 od_4 an_4 od_5 an_5 od_6 an_6 od_7 an_7 od_8 an_8 od_9 an_9 od_10 an_10 od_11 an_11 od_12 an_12 od_13 an_13 od_14 an_14 od_15 an_15 od_16 an_16 od_17 an_17 od_18 an_18 od_19 an_19 od_20 an_20 od_21 an_21 od_22 an_22 od_23 an_23 od_24 an_24 od_25 an_25 od_26 an_26 od_27 an_27 od_28 an_28 od_29 an_29 od_30 an_30 od_31 an_31 od_32 an_32 od_33 an_33 od_34 an_34 od_35 an_35 : Option Addr}
    {sl_0 sl_1 sl_2 sl_3 sl_4 sl_5 sl_6 sl_7 sl_8 sl_9 sl_10 sl_11 sl_12 sl_13 sl_14 sl_15 sl_16 sl_17 sl_18 sl_19 sl_20 sl_21 sl_22 sl_23 sl_24 sl_25 sl_26 sl_27 sl_28 sl_29 sl_30 sl_31 sl_32 sl_33 sl_34 sl_35 : Array (Option Value)}
    {oc_0 kV_0 dc_0 pm_0 cd_0 ct_0 oc_1 kV_1 dc_1 pm_1 cd_1 ct_1 oc_2 kV_2 dc_2 pm_2 cd_2 ct_2 oc_3 kV_3 dc_3 pm_3 cd_3 ct_3 oc_4 kV_4 dc_4 pm_4 cd_4 ct_4 oc_5 kV_5 dc_5 pm_5 cd_5 ct_5 oc_6 kV_6 dc_6 pm_6 cd_6 ct_6 oc_7 kV_7 dc_7 pm_7 cd_7 ct_7 oc_8 kV_8 dc_8 pm_8 cd_8 ct_8 oc_9 kV_9 dc_9 pm_9 cd_9 ct_9 oc_10 kV_10 dc_10 pm_10 cd_10 ct_10 oc_11 kV_11 dc_11 pm_11 cd_11 ct_11 oc_12 kV_12 dc_12 pm_12 cd_12 ct_12 oc_13 kV_13 dc_13 pm_13 cd_13 ct_13 oc_14 kV_14 dc_14 pm_14 cd_14 ct_14 oc_15 kV_15 dc_15 pm_15 cd_15 ct_15 oc_16 kV_16 dc_16 pm_16 cd_16 ct_16 oc_17 kV_17 dc_17 pm_17 cd_17 ct_17 oc_18 kV_18 dc_18 pm_18 cd_18 ct_18 oc_19 kV_19 dc_19 pm_19 cd_19 ct_19 oc_20 kV_20 dc_20 pm_20 cd_20 ct_20 oc_21 kV_21 dc_21 pm_21 cd_21 ct_21 oc_22 kV_22 dc_22 pm_22 cd_22 ct_22 oc_23 kV_23 dc_23 pm_23 cd_23 ct_23 oc_24 kV_24 dc_24 pm_24 cd_24 ct_24 oc_25 kV_25 dc_25 pm_25 cd_25 ct_25 oc_26 kV_26 dc_26 pm_26 cd_26 ct_26 oc_27 kV_27 dc_27 pm_27 cd_27 ct_27 oc_28 kV_28 dc_28 pm_28 cd_28 ct_28 oc_29 kV_29 dc_29 pm_29 cd_29 ct_29 oc_30 kV_30 dc_30 pm_30 cd_30 ct_30 oc_31 kV_31 dc_31 pm_31 cd_31 ct_31 oc_32 kV_32 dc_32 pm_32 cd_32 ct_32 oc_33 kV_33 dc_33 pm_33 cd_33 ct_33 oc_34 kV_34 dc_34 pm_34 cd_34 ct_34 oc_35 kV_35 dc_35 pm_35 cd_35 ct_35 : Value}
    {tg_MOST_COMINGS tg_KINDS tg_MOST_GROUPS tg_DIGITS : Tok}
    {nm_0 q_0 : Str} {N_0 xcda_0 xcc_0 : Addr} {bs_0 bm_0 : List Value} {sn_0 : List Str} {sub_0 : List Value} {ab_0 : Bool} {col_0 : Option Bool} {dd_0 : Option Addr} {k0_0 k1_0 k2_0 k3_0 k5_0 : Option Value}
    {xoc_0 xdoc_0 xpm_0 xct_0 xcl_0 xccl_0 : Value} {xod_0 xan_0 xcld_0 xcdd_0 : Option Addr} {xsl_0 xcsl_0 xccs_0 : Array (Option Value)} {xvs_0 : Array Value}
    {xfile_0 : Str} {xtf_0 : Tok}
    (a_LightsError : PySem.W.nsIn K mainGlobals "LightsError" = some (some (.ref CLightsError)))
    (a_BadWord : PySem.W.nsIn K mainGlobals "BadWord" = some (some (.ref CBadWord)))
    (a_BadLine : PySem.W.nsIn K mainGlobals "BadLine" = some (some (.ref CBadLine)))
    (a_RowReader : PySem.W.nsIn K mainGlobals "RowReader" = some (some (.ref CRowReader)))
    (a_number_of : PySem.W.nsIn K mainGlobals "number_of" = some (some (.ref f_number_of)))
    (l_number_of : K.lookup f_number_of = some ⟨oc_0, od_0, .func (PySem.W.fnOf "number_of" "number_of" (defArgs st_number_of) (defBody st_number_of) (defScope st_number_of) .none kV_0 dc_0 pm_0 an_0 cd_0 ct_0), sl_0⟩)
    (c_number_of : PySem.W.codeIn K cd_0 "number_of" = true)
    (k_number_of : PySem.W.keepIn K (.ref f_number_of) = true)
    (a_comings_word : PySem.W.nsIn K mainGlobals "comings_word" = some (some (.ref f_comings_word)))
    (l_comings_word : K.lookup f_comings_word = some ⟨oc_1, od_1, .func (PySem.W.fnOf "comings_word" "comings_word" (defArgs st_comings_word) (defBody st_comings_word) (defScope st_comings_word) .none kV_1 dc_1 pm_1 an_1 cd_1 ct_1), sl_1⟩)
    (c_comings_word : PySem.W.codeIn K cd_1 "comings_word" = true)
    (k_comings_word : PySem.W.keepIn K (.ref f_comings_word) = true)
    (a_row_text : PySem.W.nsIn K mainGlobals "row_text" = some (some (.ref f_row_text)))
    (l_row_text : K.lookup f_row_text = some ⟨oc_2, od_2, .func (PySem.W.fnOf "row_text" "row_text" (defArgs st_row_text) (defBody st_row_text) (defScope st_row_text) .none kV_2 dc_2 pm_2 an_2 cd_2 ct_2), sl_2⟩)
    (c_row_text : PySem.W.codeIn K cd_2 "row_text" = true)
    (k_row_text : PySem.W.keepIn K (.ref f_row_text) = true)
    (a_comings_of : PySem.W.nsIn K mainGlobals "comings_of" = some (some (.ref f_comings_of)))
    (l_comings_of : K.lookup f_comings_of = some ⟨oc_3, od_3, .func (PySem.W.fnOf "comings_of" "comings_of" (defArgs st_comings_of) (defBody st_comings_of) (defScope st_comings_of) .none kV_3 dc_3 pm_3 an_3 cd_3 ct_3), sl_3⟩)
    (c_comings_of : PySem.W.codeIn K cd_3 "comings_of" = true)
    (k_comings_of : PySem.W.keepIn K (.ref f_comings_of) = true)
    (a_split_word : PySem.W.nsIn K mainGlobals "split_word" = some (some (.ref f_split_word)))
    (l_split_word : K.lookup f_split_word = some ⟨oc_4, od_4, .func (PySem.W.fnOf "split_word" "split_word" (defArgs st_split_word) (defBody st_split_word) (defScope st_split_word) .none kV_4 dc_4 pm_4 an_4 cd_4 ct_4), sl_4⟩)
    (c_split_word : PySem.W.codeIn K cd_4 "split_word" = true)
    (k_split_word : PySem.W.keepIn K (.ref f_split_word) = true)
    (a_RowReader___init : PySem.W.findIn K (.ref CRowReader) "__init__" = some (some (.ref f_RowReader___init)))
    (i_RowReader___init : PySem.W.isFn K (.ref f_RowReader___init) = true)
    (l_RowReader___init : K.lookup f_RowReader___init = some ⟨oc_5, od_5, .func (PySem.W.fnOf "__init__" "RowReader.__init__" (defArgs st_RowReader___init) (defBody st_RowReader___init) (defScope st_RowReader___init) .none kV_5 dc_5 pm_5 an_5 cd_5 ct_5), sl_5⟩)
    (c_RowReader___init : PySem.W.codeIn K cd_5 "RowReader.__init__" = true)
    (k_RowReader___init : PySem.W.keepIn K (.ref f_RowReader___init) = true)
    (a_RowReader_room : PySem.W.findIn K (.ref CRowReader) "room" = some (some (.ref f_RowReader_room)))
    (i_RowReader_room : PySem.W.isFn K (.ref f_RowReader_room) = true)
    (l_RowReader_room : K.lookup f_RowReader_room = some ⟨oc_6, od_6, .func (PySem.W.fnOf "room" "RowReader.room" (defArgs st_RowReader_room) (defBody st_RowReader_room) (defScope st_RowReader_room) .none kV_6 dc_6 pm_6 an_6 cd_6 ct_6), sl_6⟩)
    (c_RowReader_room : PySem.W.codeIn K cd_6 "RowReader.room" = true)
    (k_RowReader_room : PySem.W.keepIn K (.ref f_RowReader_room) = true)
    (a_RowReader_add : PySem.W.findIn K (.ref CRowReader) "add" = some (some (.ref f_RowReader_add)))
    (i_RowReader_add : PySem.W.isFn K (.ref f_RowReader_add) = true)
    (l_RowReader_add : K.lookup f_RowReader_add = some ⟨oc_7, od_7, .func (PySem.W.fnOf "add" "RowReader.add" (defArgs st_RowReader_add) (defBody st_RowReader_add) (defScope st_RowReader_add) .none kV_7 dc_7 pm_7 an_7 cd_7 ct_7), sl_7⟩)
    (c_RowReader_add : PySem.W.codeIn K cd_7 "RowReader.add" = true)
    (k_RowReader_add : PySem.W.keepIn K (.ref f_RowReader_add) = true)
    (a_RowReader_end_group : PySem.W.findIn K (.ref CRowReader) "end_group" = some (some (.ref f_RowReader_end_group)))
    (i_RowReader_end_group : PySem.W.isFn K (.ref f_RowReader_end_group) = true)
    (l_RowReader_end_group : K.lookup f_RowReader_end_group = some ⟨oc_8, od_8, .func (PySem.W.fnOf "end_group" "RowReader.end_group" (defArgs st_RowReader_end_group) (defBody st_RowReader_end_group) (defScope st_RowReader_end_group) .none kV_8 dc_8 pm_8 an_8 cd_8 ct_8), sl_8⟩)
    (c_RowReader_end_group : PySem.W.codeIn K cd_8 "RowReader.end_group" = true)
    (k_RowReader_end_group : PySem.W.keepIn K (.ref f_RowReader_end_group) = true)
    (a_RowReader_begin_group : PySem.W.findIn K (.ref CRowReader) "begin_group" = some (some (.ref f_RowReader_begin_group)))
    (i_RowReader_begin_group : PySem.W.isFn K (.ref f_RowReader_begin_group) = true)
    (l_RowReader_begin_group : K.lookup f_RowReader_begin_group = some ⟨oc_9, od_9, .func (PySem.W.fnOf "begin_group" "RowReader.begin_group" (defArgs st_RowReader_begin_group) (defBody st_RowReader_begin_group) (defScope st_RowReader_begin_group) .none kV_9 dc_9 pm_9 an_9 cd_9 ct_9), sl_9⟩)
    (c_RowReader_begin_group : PySem.W.codeIn K cd_9 "RowReader.begin_group" = true)
    (k_RowReader_begin_group : PySem.W.keepIn K (.ref f_RowReader_begin_group) = true)
    (a_RowReader_read_word : PySem.W.findIn K (.ref CRowReader) "read_word" = some (some (.ref f_RowReader_read_word)))
    (i_RowReader_read_word : PySem.W.isFn K (.ref f_RowReader_read_word) = true)
    (l_RowReader_read_word : K.lookup f_RowReader_read_word = some ⟨oc_10, od_10, .func (PySem.W.fnOf "read_word" "RowReader.read_word" (defArgs st_RowReader_read_word) (defBody st_RowReader_read_word) (defScope st_RowReader_read_word) .none kV_10 dc_10 pm_10 an_10 cd_10 ct_10), sl_10⟩)
    (c_RowReader_read_word : PySem.W.codeIn K cd_10 "RowReader.read_word" = true)
    (k_RowReader_read_word : PySem.W.keepIn K (.ref f_RowReader_read_word) = true)
    (a_read_row : PySem.W.nsIn K mainGlobals "read_row" = some (some (.ref f_read_row)))
    (l_read_row : K.lookup f_read_row = some ⟨oc_11, od_11, .func (PySem.W.fnOf "read_row" "read_row" (defArgs st_read_row) (defBody st_read_row) (defScope st_read_row) .none kV_11 dc_11 pm_11 an_11 cd_11 ct_11), sl_11⟩)
    (c_read_row : PySem.W.codeIn K cd_11 "read_row" = true)
    (k_read_row : PySem.W.keepIn K (.ref f_read_row) = true)
    (a_law_cell : PySem.W.nsIn K mainGlobals "_law_cell" = some (some (.ref f_law_cell)))
    (l_law_cell : K.lookup f_law_cell = some ⟨oc_12, od_12, .func (PySem.W.fnOf "_law_cell" "_law_cell" (defArgs st_law_cell) (defBody st_law_cell) (defScope st_law_cell) .none kV_12 dc_12 pm_12 an_12 cd_12 ct_12), sl_12⟩)
    (c_law_cell : PySem.W.codeIn K cd_12 "_law_cell" = true)
    (k_law_cell : PySem.W.keepIn K (.ref f_law_cell) = true)
    (a_law_hand : PySem.W.nsIn K mainGlobals "_law_hand" = some (some (.ref f_law_hand)))
    (l_law_hand : K.lookup f_law_hand = some ⟨oc_13, od_13, .func (PySem.W.fnOf "_law_hand" "_law_hand" (defArgs st_law_hand) (defBody st_law_hand) (defScope st_law_hand) .none kV_13 dc_13 pm_13 an_13 cd_13 ct_13), sl_13⟩)
    (c_law_hand : PySem.W.codeIn K cd_13 "_law_hand" = true)
    (k_law_hand : PySem.W.keepIn K (.ref f_law_hand) = true)
    (a_law_take : PySem.W.nsIn K mainGlobals "_law_take" = some (some (.ref f_law_take)))
    (l_law_take : K.lookup f_law_take = some ⟨oc_14, od_14, .func (PySem.W.fnOf "_law_take" "_law_take" (defArgs st_law_take) (defBody st_law_take) (defScope st_law_take) .none kV_14 dc_14 pm_14 an_14 cd_14 ct_14), sl_14⟩)
    (c_law_take : PySem.W.codeIn K cd_14 "_law_take" = true)
    (k_law_take : PySem.W.keepIn K (.ref f_law_take) = true)
    (a_law_some : PySem.W.nsIn K mainGlobals "_law_some" = some (some (.ref f_law_some)))
    (l_law_some : K.lookup f_law_some = some ⟨oc_15, od_15, .func (PySem.W.fnOf "_law_some" "_law_some" (defArgs st_law_some) (defBody st_law_some) (defScope st_law_some) .none kV_15 dc_15 pm_15 an_15 cd_15 ct_15), sl_15⟩)
    (c_law_some : PySem.W.codeIn K cd_15 "_law_some" = true)
    (k_law_some : PySem.W.keepIn K (.ref f_law_some) = true)
    (a_law_is_int : PySem.W.nsIn K mainGlobals "_law_is_int" = some (some (.ref f_law_is_int)))
    (l_law_is_int : K.lookup f_law_is_int = some ⟨oc_16, od_16, .func (PySem.W.fnOf "_law_is_int" "_law_is_int" (defArgs st_law_is_int) (defBody st_law_is_int) (defScope st_law_is_int) .none kV_16 dc_16 pm_16 an_16 cd_16 ct_16), sl_16⟩)
    (c_law_is_int : PySem.W.codeIn K cd_16 "_law_is_int" = true)
    (k_law_is_int : PySem.W.keepIn K (.ref f_law_is_int) = true)
    (a_law_same : PySem.W.nsIn K mainGlobals "_law_same" = some (some (.ref f_law_same)))
    (l_law_same : K.lookup f_law_same = some ⟨oc_17, od_17, .func (PySem.W.fnOf "_law_same" "_law_same" (defArgs st_law_same) (defBody st_law_same) (defScope st_law_same) .none kV_17 dc_17 pm_17 an_17 cd_17 ct_17), sl_17⟩)
    (c_law_same : PySem.W.codeIn K cd_17 "_law_same" = true)
    (k_law_same : PySem.W.keepIn K (.ref f_law_same) = true)
    (a_law_stretch : PySem.W.nsIn K mainGlobals "_law_stretch" = some (some (.ref f_law_stretch)))
    (l_law_stretch : K.lookup f_law_stretch = some ⟨oc_18, od_18, .func (PySem.W.fnOf "_law_stretch" "_law_stretch" (defArgs st_law_stretch) (defBody st_law_stretch) (defScope st_law_stretch) .none kV_18 dc_18 pm_18 an_18 cd_18 ct_18), sl_18⟩)
    (c_law_stretch : PySem.W.codeIn K cd_18 "_law_stretch" = true)
    (k_law_stretch : PySem.W.keepIn K (.ref f_law_stretch) = true)
    (a_law_written : PySem.W.nsIn K mainGlobals "_law_written" = some (some (.ref f_law_written)))
    (l_law_written : K.lookup f_law_written = some ⟨oc_19, od_19, .func (PySem.W.fnOf "_law_written" "_law_written" (defArgs st_law_written) (defBody st_law_written) (defScope st_law_written) .none kV_19 dc_19 pm_19 an_19 cd_19 ct_19), sl_19⟩)
    (c_law_written : PySem.W.codeIn K cd_19 "_law_written" = true)
    (k_law_written : PySem.W.keepIn K (.ref f_law_written) = true)
    (a_law_count : PySem.W.nsIn K mainGlobals "_law_count" = some (some (.ref f_law_count)))
    (l_law_count : K.lookup f_law_count = some ⟨oc_20, od_20, .func (PySem.W.fnOf "_law_count" "_law_count" (defArgs st_law_count) (defBody st_law_count) (defScope st_law_count) .none kV_20 dc_20 pm_20 an_20 cd_20 ct_20), sl_20⟩)
    (c_law_count : PySem.W.codeIn K cd_20 "_law_count" = true)
    (k_law_count : PySem.W.keepIn K (.ref f_law_count) = true)
    (a_law_digits : PySem.W.nsIn K mainGlobals "_law_digits" = some (some (.ref f_law_digits)))
    (l_law_digits : K.lookup f_law_digits = some ⟨oc_21, od_21, .func (PySem.W.fnOf "_law_digits" "_law_digits" (defArgs st_law_digits) (defBody st_law_digits) (defScope st_law_digits) .none kV_21 dc_21 pm_21 an_21 cd_21 ct_21), sl_21⟩)
    (c_law_digits : PySem.W.codeIn K cd_21 "_law_digits" = true)
    (k_law_digits : PySem.W.keepIn K (.ref f_law_digits) = true)
    (a_law_read : PySem.W.nsIn K mainGlobals "_law_read" = some (some (.ref f_law_read)))
    (l_law_read : K.lookup f_law_read = some ⟨oc_22, od_22, .func (PySem.W.fnOf "_law_read" "_law_read" (defArgs st_law_read) (defBody st_law_read) (defScope st_law_read) .none kV_22 dc_22 pm_22 an_22 cd_22 ct_22), sl_22⟩)
    (c_law_read : PySem.W.codeIn K cd_22 "_law_read" = true)
    (k_law_read : PySem.W.keepIn K (.ref f_law_read) = true)
    (a_law_row : PySem.W.nsIn K mainGlobals "_law_row" = some (some (.ref f_law_row)))
    (l_law_row : K.lookup f_law_row = some ⟨oc_23, od_23, .func (PySem.W.fnOf "_law_row" "_law_row" (defArgs st_law_row) (defBody st_law_row) (defScope st_law_row) .none kV_23 dc_23 pm_23 an_23 cd_23 ct_23), sl_23⟩)
    (c_law_row : PySem.W.codeIn K cd_23 "_law_row" = true)
    (k_law_row : PySem.W.keepIn K (.ref f_law_row) = true)
    (a_law_plain_word : PySem.W.nsIn K mainGlobals "_law_plain_word" = some (some (.ref f_law_plain_word)))
    (l_law_plain_word : K.lookup f_law_plain_word = some ⟨oc_24, od_24, .func (PySem.W.fnOf "_law_plain_word" "_law_plain_word" (defArgs st_law_plain_word) (defBody st_law_plain_word) (defScope st_law_plain_word) .none kV_24 dc_24 pm_24 an_24 cd_24 ct_24), sl_24⟩)
    (c_law_plain_word : PySem.W.codeIn K cd_24 "_law_plain_word" = true)
    (k_law_plain_word : PySem.W.keepIn K (.ref f_law_plain_word) = true)
    (a_law_number_word : PySem.W.nsIn K mainGlobals "_law_number_word" = some (some (.ref f_law_number_word)))
    (l_law_number_word : K.lookup f_law_number_word = some ⟨oc_25, od_25, .func (PySem.W.fnOf "_law_number_word" "_law_number_word" (defArgs st_law_number_word) (defBody st_law_number_word) (defScope st_law_number_word) .none kV_25 dc_25 pm_25 an_25 cd_25 ct_25), sl_25⟩)
    (c_law_number_word : PySem.W.codeIn K cd_25 "_law_number_word" = true)
    (k_law_number_word : PySem.W.keepIn K (.ref f_law_number_word) = true)
    (a_law_word : PySem.W.nsIn K mainGlobals "_law_word" = some (some (.ref f_law_word)))
    (l_law_word : K.lookup f_law_word = some ⟨oc_26, od_26, .func (PySem.W.fnOf "_law_word" "_law_word" (defArgs st_law_word) (defBody st_law_word) (defScope st_law_word) .none kV_26 dc_26 pm_26 an_26 cd_26 ct_26), sl_26⟩)
    (c_law_word : PySem.W.codeIn K cd_26 "_law_word" = true)
    (k_law_word : PySem.W.keepIn K (.ref f_law_word) = true)
    (a_law_nest : PySem.W.nsIn K mainGlobals "_law_nest" = some (some (.ref f_law_nest)))
    (l_law_nest : K.lookup f_law_nest = some ⟨oc_27, od_27, .func (PySem.W.fnOf "_law_nest" "_law_nest" (defArgs st_law_nest) (defBody st_law_nest) (defScope st_law_nest) .none kV_27 dc_27 pm_27 an_27 cd_27 ct_27), sl_27⟩)
    (c_law_nest : PySem.W.codeIn K cd_27 "_law_nest" = true)
    (k_law_nest : PySem.W.keepIn K (.ref f_law_nest) = true)
    (a_law_edge : PySem.W.nsIn K mainGlobals "_law_edge" = some (some (.ref f_law_edge)))
    (l_law_edge : K.lookup f_law_edge = some ⟨oc_28, od_28, .func (PySem.W.fnOf "_law_edge" "_law_edge" (defArgs st_law_edge) (defBody st_law_edge) (defScope st_law_edge) .none kV_28 dc_28 pm_28 an_28 cd_28 ct_28), sl_28⟩)
    (c_law_edge : PySem.W.codeIn K cd_28 "_law_edge" = true)
    (k_law_edge : PySem.W.keepIn K (.ref f_law_edge) = true)
    (a_law_sign : PySem.W.nsIn K mainGlobals "_law_sign" = some (some (.ref f_law_sign)))
    (l_law_sign : K.lookup f_law_sign = some ⟨oc_29, od_29, .func (PySem.W.fnOf "_law_sign" "_law_sign" (defArgs st_law_sign) (defBody st_law_sign) (defScope st_law_sign) .none kV_29 dc_29 pm_29 an_29 cd_29 ct_29), sl_29⟩)
    (c_law_sign : PySem.W.codeIn K cd_29 "_law_sign" = true)
    (k_law_sign : PySem.W.keepIn K (.ref f_law_sign) = true)
    (a_law_text : PySem.W.nsIn K mainGlobals "_law_text" = some (some (.ref f_law_text)))
    (l_law_text : K.lookup f_law_text = some ⟨oc_30, od_30, .func (PySem.W.fnOf "_law_text" "_law_text" (defArgs st_law_text) (defBody st_law_text) (defScope st_law_text) .none kV_30 dc_30 pm_30 an_30 cd_30 ct_30), sl_30⟩)
    (c_law_text : PySem.W.codeIn K cd_30 "_law_text" = true)
    (k_law_text : PySem.W.keepIn K (.ref f_law_text) = true)
    (a_law_asked : PySem.W.nsIn K mainGlobals "_law_asked" = some (some (.ref f_law_asked)))
    (l_law_asked : K.lookup f_law_asked = some ⟨oc_31, od_31, .func (PySem.W.fnOf "_law_asked" "_law_asked" (defArgs st_law_asked) (defBody st_law_asked) (defScope st_law_asked) .none kV_31 dc_31 pm_31 an_31 cd_31 ct_31), sl_31⟩)
    (c_law_asked : PySem.W.codeIn K cd_31 "_law_asked" = true)
    (k_law_asked : PySem.W.keepIn K (.ref f_law_asked) = true)
    (a_law_base_told : PySem.W.nsIn K mainGlobals "_law_base_told" = some (some (.ref f_law_base_told)))
    (l_law_base_told : K.lookup f_law_base_told = some ⟨oc_32, od_32, .func (PySem.W.fnOf "_law_base_told" "_law_base_told" (defArgs st_law_base_told) (defBody st_law_base_told) (defScope st_law_base_told) .none kV_32 dc_32 pm_32 an_32 cd_32 ct_32), sl_32⟩)
    (c_law_base_told : PySem.W.codeIn K cd_32 "_law_base_told" = true)
    (k_law_base_told : PySem.W.keepIn K (.ref f_law_base_told) = true)
    (a_law_read_right : PySem.W.nsIn K mainGlobals "_law_read_right" = some (some (.ref f_law_read_right)))
    (l_law_read_right : K.lookup f_law_read_right = some ⟨oc_33, od_33, .func (PySem.W.fnOf "_law_read_right" "_law_read_right" (defArgs st_law_read_right) (defBody st_law_read_right) (defScope st_law_read_right) .none kV_33 dc_33 pm_33 an_33 cd_33 ct_33), sl_33⟩)
    (c_law_read_right : PySem.W.codeIn K cd_33 "_law_read_right" = true)
    (k_law_read_right : PySem.W.keepIn K (.ref f_law_read_right) = true)
    (a_law_written_right : PySem.W.nsIn K mainGlobals "_law_written_right" = some (some (.ref f_law_written_right)))
    (l_law_written_right : K.lookup f_law_written_right = some ⟨oc_34, od_34, .func (PySem.W.fnOf "_law_written_right" "_law_written_right" (defArgs st_law_written_right) (defBody st_law_written_right) (defScope st_law_written_right) .none kV_34 dc_34 pm_34 an_34 cd_34 ct_34), sl_34⟩)
    (c_law_written_right : PySem.W.codeIn K cd_34 "_law_written_right" = true)
    (k_law_written_right : PySem.W.keepIn K (.ref f_law_written_right) = true)
    (a_law : PySem.W.nsIn K mainGlobals "law" = some (some (.ref f_law)))
    (l_law : K.lookup f_law = some ⟨oc_35, od_35, .func (PySem.W.fnOf "law" "law" (defArgs st_law) (defBody st_law) (defScope st_law) .none kV_35 dc_35 pm_35 an_35 cd_35 ct_35), sl_35⟩)
    (c_law : PySem.W.codeIn K cd_35 "law" = true)
    (k_law : PySem.W.keepIn K (.ref f_law) = true)
    (pg_RowReader : PySem.W.plainGet K CRowReader Str.empty = true)
    (hd_RowReader : PySem.W.hasDictIn K CRowReader = true)
    (po_RowReader : PySem.W.plainOver K CRowReader = true)
    (sa_RowReader : PySem.W.findIn K (.ref CRowReader) "__setattr__" = some (some (.builtin "object.__setattr__")))
    (mk_RowReader : PySem.W.makesIn K CRowReader = true)
    (kc_RowReader : PySem.W.keepIn K (.ref CRowReader) = true)
    (no_RowReader_parts : PySem.W.findIn K (.ref CRowReader) "parts" = some none)
    (no_RowReader_times : PySem.W.findIn K (.ref CRowReader) "times" = some none)
    (no_BadWord_place : PySem.W.findIn K (.ref CBadWord) "place" = some none)
    (be_LightsError : PySem.W.subIn K (.ref CLightsError) (.type "BaseException") = some true)
    (hd_LightsError : PySem.W.hasDictIn K CLightsError = true)
    (ty_LightsError : PySem.W.typeIn K (.ref CLightsError) = some (.type "type"))
    (ga_LightsError : PySem.W.findIn K (.ref CLightsError) "__getattribute__" = some (some (.builtin "BaseException.__getattribute__")))
    (gg_LightsError : PySem.W.findIn K (.ref CLightsError) "__getattr__" = some none)
    (cc_LightsError : PySem.W.findIn K (.ref CLightsError) "__class__" = some (some (.builtin "object.__class__")))
    (mo_LightsError : PySem.W.mroIn K CLightsError (.type "object") = some true)
    (be_BadWord : PySem.W.subIn K (.ref CBadWord) (.type "BaseException") = some true)
    (hd_BadWord : PySem.W.hasDictIn K CBadWord = true)
    (ty_BadWord : PySem.W.typeIn K (.ref CBadWord) = some (.type "type"))
    (ga_BadWord : PySem.W.findIn K (.ref CBadWord) "__getattribute__" = some (some (.builtin "BaseException.__getattribute__")))
    (gg_BadWord : PySem.W.findIn K (.ref CBadWord) "__getattr__" = some none)
    (cc_BadWord : PySem.W.findIn K (.ref CBadWord) "__class__" = some (some (.builtin "object.__class__")))
    (mo_BadWord : PySem.W.mroIn K CBadWord (.type "object") = some true)
    (be_BadLine : PySem.W.subIn K (.ref CBadLine) (.type "BaseException") = some true)
    (hd_BadLine : PySem.W.hasDictIn K CBadLine = true)
    (ty_BadLine : PySem.W.typeIn K (.ref CBadLine) = some (.type "type"))
    (ga_BadLine : PySem.W.findIn K (.ref CBadLine) "__getattribute__" = some (some (.builtin "BaseException.__getattribute__")))
    (gg_BadLine : PySem.W.findIn K (.ref CBadLine) "__getattr__" = some none)
    (cc_BadLine : PySem.W.findIn K (.ref CBadLine) "__class__" = some (some (.builtin "object.__class__")))
    (mo_BadLine : PySem.W.mroIn K CBadLine (.type "object") = some true)
    (gs : PySem.W.specialIn K (.builtin "object.__class__") "__get__" = some (some (.builtin "getset_descriptor.__get__")))
    (gt : PySem.W.takesIn K (.builtin "object.__class__") = some true)
    (s_LightsError_LightsError : PySem.W.subIn K (.ref CLightsError) (.ref CLightsError) = some true)
    (s_BadWord_LightsError : PySem.W.subIn K (.ref CBadWord) (.ref CLightsError) = some true)
    (s_BadLine_LightsError : PySem.W.subIn K (.ref CBadLine) (.ref CLightsError) = some true)
    (s_LightsError_BadWord : PySem.W.subIn K (.ref CLightsError) (.ref CBadWord) = some false)
    (s_BadWord_BadWord : PySem.W.subIn K (.ref CBadWord) (.ref CBadWord) = some true)
    (s_BadLine_BadWord : PySem.W.subIn K (.ref CBadLine) (.ref CBadWord) = some false)
    (q_BadWord_BadLine : PySem.W.kitOne K (.ref CBadWord) (.ref CBadLine) = some false)
    (q_BadWord_ValueError : PySem.W.kitOne K (.ref CBadWord) (.type "ValueError") = some true)
    (q_LightsError_ValueError : PySem.W.kitOne K (.ref CLightsError) (.type "ValueError") = some true)
    (q_BadLine_ValueError : PySem.W.kitOne K (.ref CBadLine) (.type "ValueError") = some true)
    (b_ValueError : PySem.W.nsIn K mainGlobals "ValueError" = some none)
    (b_abs : PySem.W.nsIn K mainGlobals "abs" = some none)
    (b_bool : PySem.W.nsIn K mainGlobals "bool" = some none)
    (b_enumerate : PySem.W.nsIn K mainGlobals "enumerate" = some none)
    (b_int : PySem.W.nsIn K mainGlobals "int" = some none)
    (b_isinstance : PySem.W.nsIn K mainGlobals "isinstance" = some none)
    (b_len : PySem.W.nsIn K mainGlobals "len" = some none)
    (b_list : PySem.W.nsIn K mainGlobals "list" = some none)
    (b_max : PySem.W.nsIn K mainGlobals "max" = some none)
    (b_min : PySem.W.nsIn K mainGlobals "min" = some none)
    (b_range : PySem.W.nsIn K mainGlobals "range" = some none)
    (b_str : PySem.W.nsIn K mainGlobals "str" = some none)
    (b_sum : PySem.W.nsIn K mainGlobals "sum" = some none)
    (b_tuple : PySem.W.nsIn K mainGlobals "tuple" = some none)
    (b_super : PySem.W.nsIn K mainGlobals "super" = some none)
    (g_DIGITS : PySem.W.nsIn K mainGlobals "DIGITS" = some (some (.str "0123456789" tg_DIGITS)))
    (g_KINDS : PySem.W.nsIn K mainGlobals "KINDS" = some (some (.str "012" tg_KINDS)))
    (g_MOST_COMINGS : PySem.W.nsIn K mainGlobals "MOST_COMINGS" = some (some (.int 1000 tg_MOST_COMINGS)))
    (g_MOST_GROUPS : PySem.W.nsIn K mainGlobals "MOST_GROUPS" = some (some (.int 4 tg_MOST_GROUPS)))
    (xL_BadWord : K.lookup CBadWord = some (PySem.excClassObj nm_0 q_0 CBadWord N_0 bs_0 bm_0 true sn_0 sub_0 ab_0 col_0 dd_0 k0_0 k1_0 k2_0 k3_0 k5_0 "ValueError.__new__"))
    (sx_BadWord : PySem.W.findIn K (.ref CBadWord) "__setattr__" = some (some (.builtin "object.__setattr__")))
    (ix_BadWord : PySem.W.findIn K (.ref CBadWord) "__init__" = some (some (.ref fx_BadWord)))
    (tx_BadWord : PySem.W.typeIn K (.ref fx_BadWord) = some (.type "function"))
    (kx_BadWord : PySem.W.keepIn K (.ref CBadWord) = true)
    (vx_BadWord : PySem.W.subIn K (.ref CBadWord) (.type "ValueError") = some true)
    (mx_BadWord : PySem.W.mroIn K CBadWord (.ref CBadWord) = some true)
    (ux_BadWord : PySem.W.ks_superIn K CBadWord CBadWord "__init__" = some (some (.builtin "ValueError.__init__")))
    (fx_BadWord_l : K.lookup fx_BadWord = some ⟨xoc_0, xod_0, .func (PySem.W.ksFn "__init__" "BadWord.__init__" (defArgs st_xBadWord) (defBody st_xBadWord) (defScope st_xBadWord) .none .none xdoc_0 xpm_0 xan_0 (.ref xcda_0) xct_0 xcc_0), xsl_0⟩)
    (fx_BadWord_c : PySem.W.codeIn K (.ref xcda_0) "BadWord.__init__" = true)
    (xcell_BadWord : K.lookup xcc_0 = some ⟨xcl_0, xcld_0, .cell (some (.ref CBadWord)), xcsl_0⟩)
    (xcode_BadWord : K.lookup xcda_0 = some ⟨xccl_0, xcdd_0, .fields xvs_0, xccs_0⟩)
    (opq : PySem.W.nsIn K PySem.cStatics "thirdparty.any" = some none)
    (hbm_BadWord : PySem.HandSPX.refsVE bm_0 = true)
    (hvs_BadWord : xvs_0[2]? = some (.str xfile_0 xtf_0))
    (hfl_BadWord : ((P.main.file : Str) == xfile_0) = true)
    (htop : (P.main.scope.names.lookup ("super" : Str)).isSome = false) :
    ∃ fd : FuncData, (∀ (s : Shared) (v : Value), BindsTo s fd ⟨[v], []⟩ [("script", v)]) ∧ ∀ base : Heap, K.In base → base.Ns mainGlobals mg → FnOk P w K mg base (L2.CX P w) 10 fa fd ["script"] (spLaw K) := by
  have e := hfa.symm.trans (PySem.W.mg_of X G a_law)
  cases e
  have T_BadWord : Mx.EcTxt P K CBadWord fx_BadWord xcc_0 xcda_0 "BadWord.__init__" (defArgs st_xBadWord) (defBody st_xBadWord) (defScope st_xBadWord) := ⟨⟨_, _, _, _, _, _, _, _, _, _, _, _, _, _, _, xL_BadWord, hbm_BadWord⟩, sx_BadWord, ix_BadWord, tx_BadWord, kx_BadWord, be_BadWord, vx_BadWord, ty_BadWord, mx_BadWord, ux_BadWord, opq, ⟨_, _, _, xcell_BadWord⟩, ⟨_, _, _, _, _, _, xcode_BadWord, hvs_BadWord, hfl_BadWord⟩, ⟨_, _, _, _, _, _, _, _, _, fx_BadWord_l, fx_BadWord_c, rfl, rfl⟩⟩
  have J_BadWord : ∀ u, UOk u → Mx.InitOk P w K CBadWord fx_BadWord [u] fun z => if z = "place" then some u else none := fun u hu => by
    rcases hu with ⟨i, tk, rfl, h⟩ | ⟨x, tk, rfl, h⟩
    · exact Mx.init1 T_BadWord no_BadWord_place htop (fun L => rfl) (fun x u doc pm an ct s => .of_eq rfl) (by decide) (by decide) (by decide) (by decide) (fun x L => (.con (by decide) (.int rfl h (by rfl) (by rfl) (.con (by decide) .nil)))) (by decide)
    · exact Mx.init1 T_BadWord no_BadWord_place htop (fun L => rfl) (fun x u doc pm an ct s => .of_eq rfl) (by decide) (by decide) (by decide) (by decide) (fun x L => (.con (by decide) (.str rfl h (by rfl) (by rfl) (.con (by decide) .nil)))) (by decide)
  have t_BadWord : ∀ c b, hit_BadWord c = some b → PySem.W.exmOne K (.ref ((clsOf CLightsError CBadWord CBadLine CRowReader) c)) (.ref CBadWord) = some b := fun c b h => by
    unfold hit_BadWord at h
    split at h <;> cases h
    · exact PySem.W.exm_ref be_BadWord hd_BadWord ty_BadWord s_LightsError_BadWord
    · exact PySem.W.exm_ref be_BadWord hd_BadWord ty_BadWord s_BadWord_BadWord
    · exact PySem.W.exm_ref be_BadWord hd_BadWord ty_BadWord s_BadLine_BadWord
  have t_LightsError : ∀ c b, hit_LightsError c = some b → PySem.W.exmOne K (.ref ((clsOf CLightsError CBadWord CBadLine CRowReader) c)) (.ref CLightsError) = some b := fun c b h => by
    unfold hit_LightsError at h
    split at h <;> cases h
    · exact PySem.W.exm_ref be_LightsError hd_LightsError ty_LightsError s_LightsError_LightsError
    · exact PySem.W.exm_ref be_LightsError hd_LightsError ty_LightsError s_BadWord_LightsError
    · exact PySem.W.exm_ref be_LightsError hd_LightsError ty_LightsError s_BadLine_LightsError
  have h_xis_BadWord_BadLine : ∀ c b, xis_BadWord_BadLine c = some b → XisC K ((clsOf CLightsError CBadWord CBadLine CRowReader) c) (.ref CBadLine) b := fun c b h => by
    unfold xis_BadWord_BadLine at h
    split at h <;> cases h
    · exact ⟨⟨ga_BadWord, gg_BadWord, be_BadWord, hd_BadWord, cc_BadWord, gs, gt, mo_BadWord⟩, q_BadWord_BadLine⟩
  have h_xis_BadWord_ValueError : ∀ c b, xis_BadWord_ValueError c = some b → XisC K ((clsOf CLightsError CBadWord CBadLine CRowReader) c) (.type "ValueError") b := fun c b h => by
    unfold xis_BadWord_ValueError at h
    split at h <;> cases h
    · exact ⟨⟨ga_BadWord, gg_BadWord, be_BadWord, hd_BadWord, cc_BadWord, gs, gt, mo_BadWord⟩, q_BadWord_ValueError⟩
  have h_xis_LightsError_ValueError : ∀ c b, xis_LightsError_ValueError c = some b → XisC K ((clsOf CLightsError CBadWord CBadLine CRowReader) c) (.type "ValueError") b := fun c b h => by
    unfold xis_LightsError_ValueError at h
    split at h <;> cases h
    · exact ⟨⟨ga_LightsError, gg_LightsError, be_LightsError, hd_LightsError, cc_LightsError, gs, gt, mo_LightsError⟩, q_LightsError_ValueError⟩
    · exact ⟨⟨ga_BadWord, gg_BadWord, be_BadWord, hd_BadWord, cc_BadWord, gs, gt, mo_BadWord⟩, q_BadWord_ValueError⟩
    · exact ⟨⟨ga_BadLine, gg_BadLine, be_BadLine, hd_BadLine, cc_BadLine, gs, gt, mo_BadLine⟩, q_BadLine_ValueError⟩
  have N : Nt P w K mg (clsOf CLightsError CBadWord CBadLine CRowReader) := { b_ValueError := PySem.W.mg_none_of X G b_ValueError, b_abs := PySem.W.mg_none_of X G b_abs, b_bool := PySem.W.mg_none_of X G b_bool, b_enumerate := PySem.W.mg_none_of X G b_enumerate, b_int := PySem.W.mg_none_of X G b_int, b_isinstance := PySem.W.mg_none_of X G b_isinstance, b_len := PySem.W.mg_none_of X G b_len, b_list := PySem.W.mg_none_of X G b_list, b_max := PySem.W.mg_none_of X G b_max, b_min := PySem.W.mg_none_of X G b_min, b_range := PySem.W.mg_none_of X G b_range, b_str := PySem.W.mg_none_of X G b_str, b_sum := PySem.W.mg_none_of X G b_sum, b_tuple := PySem.W.mg_none_of X G b_tuple, k_BadLine := PySem.W.mg_of X G a_BadLine, k_BadWord := PySem.W.mg_of X G a_BadWord, k_LightsError := PySem.W.mg_of X G a_LightsError, cl_RowReader := ⟨pg_RowReader, hd_RowReader, po_RowReader, sa_RowReader⟩, no_RowReader_parts := no_RowReader_parts, no_RowReader_times := no_RowReader_times, g_DIGITS := ⟨_, PySem.W.mg_of X G g_DIGITS⟩, g_KINDS := ⟨_, PySem.W.mg_of X G g_KINDS⟩, g_MOST_COMINGS := ⟨_, PySem.W.mg_of X G g_MOST_COMINGS⟩, g_MOST_GROUPS := ⟨_, PySem.W.mg_of X G g_MOST_GROUPS⟩, x_BadWord := ⟨⟨_, _, _, _, _, _, _, T_BadWord, J_BadWord⟩, PySem.W.mg_of X G a_BadWord, rfl, PySem.W.mg_none_of X G b_super⟩, t_BadWord := t_BadWord, t_LightsError := t_LightsError, xc_BadWord := ⟨ga_BadWord, gg_BadWord, be_BadWord, hd_BadWord⟩, no_BadWord_place := no_BadWord_place, h_xis_BadWord_BadLine := h_xis_BadWord_BadLine, h_xis_BadWord_ValueError := h_xis_BadWord_ValueError, h_xis_LightsError_ValueError := h_xis_LightsError_ValueError }
  have F_number_of := fun_mk (st := st_number_of) l_number_of c_number_of k_number_of
  have B_number_of := F_number_of.binds (ps := ["word"]) fun _ _ _ _ _ _ us hl => match us, hl with | [_], _ => rfl
  have F_comings_word := fun_mk (st := st_comings_word) l_comings_word c_comings_word k_comings_word
  have B_comings_word := F_comings_word.binds (ps := ["comings", "many"]) fun _ _ _ _ _ _ us hl => match us, hl with | [_, _], _ => rfl
  have F_row_text := fun_mk (st := st_row_text) l_row_text c_row_text k_row_text
  have B_row_text := F_row_text.binds (ps := ["row"]) fun _ _ _ _ _ _ us hl => match us, hl with | [_], _ => rfl
  have F_comings_of := fun_mk (st := st_comings_of) l_comings_of c_comings_of k_comings_of
  have B_comings_of := F_comings_of.binds (ps := ["word", "width"]) fun _ _ _ _ _ _ us hl => match us, hl with | [_, _], _ => rfl
  have F_split_word := fun_mk (st := st_split_word) l_split_word c_split_word k_split_word
  have B_split_word := F_split_word.binds (ps := ["word"]) fun _ _ _ _ _ _ us hl => match us, hl with | [_], _ => rfl
  have F_RowReader___init := fun_mk (st := st_RowReader___init) l_RowReader___init c_RowReader___init k_RowReader___init
  have B_RowReader___init := F_RowReader___init.binds (ps := ["self"]) fun _ _ _ _ _ _ us hl => match us, hl with | [_], _ => rfl
  have F_RowReader_room := fun_mk (st := st_RowReader_room) l_RowReader_room c_RowReader_room k_RowReader_room
  have B_RowReader_room := F_RowReader_room.binds (ps := ["self"]) fun _ _ _ _ _ _ us hl => match us, hl with | [_], _ => rfl
  have F_RowReader_add := fun_mk (st := st_RowReader_add) l_RowReader_add c_RowReader_add k_RowReader_add
  have B_RowReader_add := F_RowReader_add.binds (ps := ["self", "comings", "many"]) fun _ _ _ _ _ _ us hl => match us, hl with | [_, _, _], _ => rfl
  have F_RowReader_end_group := fun_mk (st := st_RowReader_end_group) l_RowReader_end_group c_RowReader_end_group k_RowReader_end_group
  have B_RowReader_end_group := F_RowReader_end_group.binds (ps := ["self"]) fun _ _ _ _ _ _ us hl => match us, hl with | [_], _ => rfl
  have F_RowReader_begin_group := fun_mk (st := st_RowReader_begin_group) l_RowReader_begin_group c_RowReader_begin_group k_RowReader_begin_group
  have B_RowReader_begin_group := F_RowReader_begin_group.binds (ps := ["self", "many"]) fun _ _ _ _ _ _ us hl => match us, hl with | [_, _], _ => rfl
  have F_RowReader_read_word := fun_mk (st := st_RowReader_read_word) l_RowReader_read_word c_RowReader_read_word k_RowReader_read_word
  have B_RowReader_read_word := F_RowReader_read_word.binds (ps := ["self", "word", "width"]) fun _ _ _ _ _ _ us hl => match us, hl with | [_, _, _], _ => rfl
  have F_read_row := fun_mk (st := st_read_row) l_read_row c_read_row k_read_row
  have B_read_row := F_read_row.binds (ps := ["text", "width"]) fun _ _ _ _ _ _ us hl => match us, hl with | [_, _], _ => rfl
  have F_law_cell := fun_mk (st := st_law_cell) l_law_cell c_law_cell k_law_cell
  have B_law_cell := F_law_cell.binds (ps := ["script", "k"]) fun _ _ _ _ _ _ us hl => match us, hl with | [_, _], _ => rfl
  have F_law_hand := fun_mk (st := st_law_hand) l_law_hand c_law_hand k_law_hand
  have B_law_hand := F_law_hand.binds (ps := ["script", "k"]) fun _ _ _ _ _ _ us hl => match us, hl with | [_, _], _ => rfl
  have F_law_take := fun_mk (st := st_law_take) l_law_take c_law_take k_law_take
  have B_law_take := F_law_take.binds (ps := ["hand", "many"]) fun _ _ _ _ _ _ us hl => match us, hl with | [_, _], _ => rfl
  have F_law_some := fun_mk (st := st_law_some) l_law_some c_law_some k_law_some
  have B_law_some := F_law_some.binds (ps := ["hand", "count", "many"]) fun _ _ _ _ _ _ us hl => match us, hl with | [_, _, _], _ => rfl
  have F_law_is_int := fun_mk (st := st_law_is_int) l_law_is_int c_law_is_int k_law_is_int
  have B_law_is_int := F_law_is_int.binds (ps := ["got"]) fun _ _ _ _ _ _ us hl => match us, hl with | [_], _ => rfl
  have F_law_same := fun_mk (st := st_law_same) l_law_same c_law_same k_law_same
  have B_law_same := F_law_same.binds (ps := ["got", "due"]) fun _ _ _ _ _ _ us hl => match us, hl with | [_, _], _ => rfl
  have F_law_stretch := fun_mk (st := st_law_stretch) l_law_stretch c_law_stretch k_law_stretch
  have B_law_stretch := F_law_stretch.binds (ps := ["comings", "many"]) fun _ _ _ _ _ _ us hl => match us, hl with | [_, _], _ => rfl
  have F_law_written := fun_mk (st := st_law_written) l_law_written c_law_written k_law_written
  have B_law_written := F_law_written.binds (ps := ["row"]) fun _ _ _ _ _ _ us hl => match us, hl with | [_], _ => rfl
  have F_law_count := fun_mk (st := st_law_count) l_law_count c_law_count k_law_count
  have B_law_count := F_law_count.binds (ps := ["word"]) fun _ _ _ _ _ _ us hl => match us, hl with | [_], _ => rfl
  have F_law_digits := fun_mk (st := st_law_digits) l_law_digits c_law_digits k_law_digits
  have B_law_digits := F_law_digits.binds (ps := ["word", "width"]) fun _ _ _ _ _ _ us hl => match us, hl with | [_, _], _ => rfl
  have F_law_read := fun_mk (st := st_law_read) l_law_read c_law_read k_law_read
  have B_law_read := F_law_read.binds (ps := ["text", "width"]) fun _ _ _ _ _ _ us hl => match us, hl with | [_, _], _ => rfl
  have F_law_row := fun_mk (st := st_law_row) l_law_row c_law_row k_law_row
  have B_law_row := F_law_row.binds (ps := ["hand", "width"]) fun _ _ _ _ _ _ us hl => match us, hl with | [_, _], _ => rfl
  have F_law_plain_word := fun_mk (st := st_law_plain_word) l_law_plain_word c_law_plain_word k_law_plain_word
  have B_law_plain_word := F_law_plain_word.binds (ps := ["hand", "width"]) fun _ _ _ _ _ _ us hl => match us, hl with | [_, _], _ => rfl
  have F_law_number_word := fun_mk (st := st_law_number_word) l_law_number_word c_law_number_word k_law_number_word
  have B_law_number_word := F_law_number_word.binds (ps := ["hand"]) fun _ _ _ _ _ _ us hl => match us, hl with | [_], _ => rfl
  have F_law_word := fun_mk (st := st_law_word) l_law_word c_law_word k_law_word
  have B_law_word := F_law_word.binds (ps := ["hand", "width"]) fun _ _ _ _ _ _ us hl => match us, hl with | [_, _], _ => rfl
  have F_law_nest := fun_mk (st := st_law_nest) l_law_nest c_law_nest k_law_nest
  have B_law_nest := F_law_nest.binds (ps := ["hand", "width"]) fun _ _ _ _ _ _ us hl => match us, hl with | [_, _], _ => rfl
  have F_law_edge := fun_mk (st := st_law_edge) l_law_edge c_law_edge k_law_edge
  have B_law_edge := F_law_edge.binds (ps := ["hand", "width"]) fun _ _ _ _ _ _ us hl => match us, hl with | [_, _], _ => rfl
  have F_law_sign := fun_mk (st := st_law_sign) l_law_sign c_law_sign k_law_sign
  have B_law_sign := F_law_sign.binds (ps := ["hand"]) fun _ _ _ _ _ _ us hl => match us, hl with | [_], _ => rfl
  have F_law_text := fun_mk (st := st_law_text) l_law_text c_law_text k_law_text
  have B_law_text := F_law_text.binds (ps := ["hand", "width", "row"]) fun _ _ _ _ _ _ us hl => match us, hl with | [_, _, _], _ => rfl
  have F_law_asked := fun_mk (st := st_law_asked) l_law_asked c_law_asked k_law_asked
  have B_law_asked := F_law_asked.binds (ps := ["text", "width"]) fun _ _ _ _ _ _ us hl => match us, hl with | [_, _], _ => rfl
  have F_law_base_told := fun_mk (st := st_law_base_told) l_law_base_told c_law_base_told k_law_base_told
  have B_law_base_told := F_law_base_told.binds (ps := ["text", "width"]) fun _ _ _ _ _ _ us hl => match us, hl with | [_, _], _ => rfl
  have F_law_read_right := fun_mk (st := st_law_read_right) l_law_read_right c_law_read_right k_law_read_right
  have B_law_read_right := F_law_read_right.binds (ps := ["text", "width"]) fun _ _ _ _ _ _ us hl => match us, hl with | [_, _], _ => rfl
  have F_law_written_right := fun_mk (st := st_law_written_right) l_law_written_right c_law_written_right k_law_written_right
  have B_law_written_right := F_law_written_right.binds (ps := ["row"]) fun _ _ _ _ _ _ us hl => match us, hl with | [_], _ => rfl
  have F_law := fun_mk (st := st_law) l_law c_law k_law
  have B_law := F_law.binds (ps := ["script"]) fun _ _ _ _ _ _ us hl => match us, hl with | [_], _ => rfl
  refine ⟨PySem.W.fnOf "law" "law" (defArgs st_law) (defBody st_law) (defScope st_law) .none kV_35 dc_35 pm_35 an_35 cd_35 ct_35, fun s v => .of_eq rfl, fun base _ _ => ?_⟩
  have K_number_of := ok_number_of (w := w) (base := base) N  F_number_of
  have D_number_of : Cal P w K mg base (tab (clsOf CLightsError CBadWord CBadLine CRowReader)) "number_of" 1 M_number_of := ⟨⟨_, _, _, K_number_of, PySem.W.mg_of X G a_number_of, k_number_of, B_number_of⟩⟩
  have K_comings_word := ok_comings_word (w := w) (base := base) N  F_comings_word
  have D_comings_word : Cal P w K mg base (tab (clsOf CLightsError CBadWord CBadLine CRowReader)) "comings_word" 1 M_comings_word := ⟨⟨_, _, _, K_comings_word, PySem.W.mg_of X G a_comings_word, k_comings_word, B_comings_word⟩⟩
  have K_row_text := ok_row_text (w := w) (base := base) N D_comings_word F_row_text
  have D_row_text : Cal P w K mg base (tab (clsOf CLightsError CBadWord CBadLine CRowReader)) "row_text" 2 M_row_text := ⟨⟨_, _, _, K_row_text, PySem.W.mg_of X G a_row_text, k_row_text, B_row_text⟩⟩
  have K_comings_of := ok_comings_of (w := w) (base := base) N  F_comings_of
  have D_comings_of : Cal P w K mg base (tab (clsOf CLightsError CBadWord CBadLine CRowReader)) "comings_of" 1 M_comings_of := ⟨⟨_, _, _, K_comings_of, PySem.W.mg_of X G a_comings_of, k_comings_of, B_comings_of⟩⟩
  have K_split_word := ok_split_word (w := w) (base := base) N D_number_of F_split_word
  have D_split_word : Cal P w K mg base (tab (clsOf CLightsError CBadWord CBadLine CRowReader)) "split_word" 2 M_split_word := ⟨⟨_, _, _, K_split_word, PySem.W.mg_of X G a_split_word, k_split_word, B_split_word⟩⟩
  have K_RowReader___init := ok_RowReader___init (w := w) (base := base) N  F_RowReader___init
  have D_RowReader___init : CalI P w K mg base (tab (clsOf CLightsError CBadWord CBadLine CRowReader)) "RowReader" 4 1 M_RowReader___init := ⟨⟨_, _, _, K_RowReader___init, ⟨mk_RowReader, a_RowReader___init, i_RowReader___init, kc_RowReader⟩, PySem.W.mg_of X G a_RowReader, B_RowReader___init⟩⟩
  have K_RowReader_room := ok_RowReader_room (w := w) (base := base) N  F_RowReader_room
  have D_RowReader_room : CalM P w K mg base (tab (clsOf CLightsError CBadWord CBadLine CRowReader)) 4 "room" 1 M_RowReader_room := ⟨⟨_, _, _, K_RowReader_room, ⟨a_RowReader_room, i_RowReader_room, k_RowReader_room⟩, B_RowReader_room⟩, ⟨pg_RowReader, hd_RowReader, po_RowReader, sa_RowReader⟩, (show ("room" : Str) ∉ flds 4 by decide)⟩
  have K_RowReader_add := ok_RowReader_add (w := w) (base := base) N D_RowReader_room F_RowReader_add
  have D_RowReader_add : CalM P w K mg base (tab (clsOf CLightsError CBadWord CBadLine CRowReader)) 4 "add" 2 M_RowReader_add := ⟨⟨_, _, _, K_RowReader_add, ⟨a_RowReader_add, i_RowReader_add, k_RowReader_add⟩, B_RowReader_add⟩, ⟨pg_RowReader, hd_RowReader, po_RowReader, sa_RowReader⟩, (show ("add" : Str) ∉ flds 4 by decide)⟩
  have K_RowReader_end_group := ok_RowReader_end_group (w := w) (base := base) N D_RowReader_add F_RowReader_end_group
  have D_RowReader_end_group : CalM P w K mg base (tab (clsOf CLightsError CBadWord CBadLine CRowReader)) 4 "end_group" 3 M_RowReader_end_group := ⟨⟨_, _, _, K_RowReader_end_group, ⟨a_RowReader_end_group, i_RowReader_end_group, k_RowReader_end_group⟩, B_RowReader_end_group⟩, ⟨pg_RowReader, hd_RowReader, po_RowReader, sa_RowReader⟩, (show ("end_group" : Str) ∉ flds 4 by decide)⟩
  have K_RowReader_begin_group := ok_RowReader_begin_group (w := w) (base := base) N  F_RowReader_begin_group
  have D_RowReader_begin_group : CalM P w K mg base (tab (clsOf CLightsError CBadWord CBadLine CRowReader)) 4 "begin_group" 1 M_RowReader_begin_group := ⟨⟨_, _, _, K_RowReader_begin_group, ⟨a_RowReader_begin_group, i_RowReader_begin_group, k_RowReader_begin_group⟩, B_RowReader_begin_group⟩, ⟨pg_RowReader, hd_RowReader, po_RowReader, sa_RowReader⟩, (show ("begin_group" : Str) ∉ flds 4 by decide)⟩
  have K_RowReader_read_word := ok_RowReader_read_word (w := w) (base := base) N D_RowReader_end_group D_split_word D_RowReader_begin_group D_comings_of D_RowReader_add F_RowReader_read_word
  have D_RowReader_read_word : CalM P w K mg base (tab (clsOf CLightsError CBadWord CBadLine CRowReader)) 4 "read_word" 4 M_RowReader_read_word := ⟨⟨_, _, _, K_RowReader_read_word, ⟨a_RowReader_read_word, i_RowReader_read_word, k_RowReader_read_word⟩, B_RowReader_read_word⟩, ⟨pg_RowReader, hd_RowReader, po_RowReader, sa_RowReader⟩, (show ("read_word" : Str) ∉ flds 4 by decide)⟩
  have K_read_row := ok_read_row (w := w) (base := base) N D_RowReader___init D_RowReader_read_word F_read_row
  have D_read_row : Cal P w K mg base (tab (clsOf CLightsError CBadWord CBadLine CRowReader)) "read_row" 5 M_read_row := ⟨⟨_, _, _, K_read_row, PySem.W.mg_of X G a_read_row, k_read_row, B_read_row⟩⟩
  have K_law_cell := ok_law_cell (w := w) (base := base) N  F_law_cell
  have D_law_cell : Cal P w K mg base (tab (clsOf CLightsError CBadWord CBadLine CRowReader)) "_law_cell" 1 M_law_cell := ⟨⟨_, _, _, K_law_cell, PySem.W.mg_of X G a_law_cell, k_law_cell, B_law_cell⟩⟩
  have K_law_hand := ok_law_hand (w := w) (base := base) N D_law_cell F_law_hand
  have D_law_hand : Cal P w K mg base (tab (clsOf CLightsError CBadWord CBadLine CRowReader)) "_law_hand" 2 M_law_hand := ⟨⟨_, _, _, K_law_hand, PySem.W.mg_of X G a_law_hand, k_law_hand, B_law_hand⟩⟩
  have K_law_take := ok_law_take (w := w) (base := base) N  F_law_take
  have D_law_take : Cal P w K mg base (tab (clsOf CLightsError CBadWord CBadLine CRowReader)) "_law_take" 1 M_law_take := ⟨⟨_, _, _, K_law_take, PySem.W.mg_of X G a_law_take, k_law_take, B_law_take⟩⟩
  have K_law_some := ok_law_some (w := w) (base := base) N D_law_take F_law_some
  have D_law_some : Cal P w K mg base (tab (clsOf CLightsError CBadWord CBadLine CRowReader)) "_law_some" 2 M_law_some := ⟨⟨_, _, _, K_law_some, PySem.W.mg_of X G a_law_some, k_law_some, B_law_some⟩⟩
  have K_law_is_int := ok_law_is_int (w := w) (base := base) N  F_law_is_int
  have D_law_is_int : Cal P w K mg base (tab (clsOf CLightsError CBadWord CBadLine CRowReader)) "_law_is_int" 1 M_law_is_int := ⟨⟨_, _, _, K_law_is_int, PySem.W.mg_of X G a_law_is_int, k_law_is_int, B_law_is_int⟩⟩
  have K_law_same := ok_law_same (w := w) (base := base) N D_law_is_int (PySem.W.mg_of X G a_law_same) B_law_same F_law_same 6
  have D_law_same : Cal P w K mg base (tab (clsOf CLightsError CBadWord CBadLine CRowReader)) "_law_same" 8 (M_law_same 6) := ⟨⟨_, _, _, K_law_same, PySem.W.mg_of X G a_law_same, k_law_same, B_law_same⟩⟩
  have K_law_stretch := ok_law_stretch (w := w) (base := base) N  F_law_stretch
  have D_law_stretch : Cal P w K mg base (tab (clsOf CLightsError CBadWord CBadLine CRowReader)) "_law_stretch" 1 M_law_stretch := ⟨⟨_, _, _, K_law_stretch, PySem.W.mg_of X G a_law_stretch, k_law_stretch, B_law_stretch⟩⟩
  have K_law_written := ok_law_written (w := w) (base := base) N D_law_stretch F_law_written
  have D_law_written : Cal P w K mg base (tab (clsOf CLightsError CBadWord CBadLine CRowReader)) "_law_written" 2 M_law_written := ⟨⟨_, _, _, K_law_written, PySem.W.mg_of X G a_law_written, k_law_written, B_law_written⟩⟩
  have K_law_count := ok_law_count (w := w) (base := base) N  F_law_count
  have D_law_count : Cal P w K mg base (tab (clsOf CLightsError CBadWord CBadLine CRowReader)) "_law_count" 1 M_law_count := ⟨⟨_, _, _, K_law_count, PySem.W.mg_of X G a_law_count, k_law_count, B_law_count⟩⟩
  have K_law_digits := ok_law_digits (w := w) (base := base) N  F_law_digits
  have D_law_digits : Cal P w K mg base (tab (clsOf CLightsError CBadWord CBadLine CRowReader)) "_law_digits" 1 M_law_digits := ⟨⟨_, _, _, K_law_digits, PySem.W.mg_of X G a_law_digits, k_law_digits, B_law_digits⟩⟩
  have K_law_read := ok_law_read (w := w) (base := base) N D_law_count D_law_digits F_law_read
  have D_law_read : Cal P w K mg base (tab (clsOf CLightsError CBadWord CBadLine CRowReader)) "_law_read" 2 M_law_read := ⟨⟨_, _, _, K_law_read, PySem.W.mg_of X G a_law_read, k_law_read, B_law_read⟩⟩
  have K_law_row := ok_law_row (w := w) (base := base) N D_law_take D_law_some F_law_row
  have D_law_row : Cal P w K mg base (tab (clsOf CLightsError CBadWord CBadLine CRowReader)) "_law_row" 3 M_law_row := ⟨⟨_, _, _, K_law_row, PySem.W.mg_of X G a_law_row, k_law_row, B_law_row⟩⟩
  have K_law_plain_word := ok_law_plain_word (w := w) (base := base) N D_law_some F_law_plain_word
  have D_law_plain_word : Cal P w K mg base (tab (clsOf CLightsError CBadWord CBadLine CRowReader)) "_law_plain_word" 3 M_law_plain_word := ⟨⟨_, _, _, K_law_plain_word, PySem.W.mg_of X G a_law_plain_word, k_law_plain_word, B_law_plain_word⟩⟩
  have K_law_number_word := ok_law_number_word (w := w) (base := base) N D_law_take F_law_number_word
  have D_law_number_word : Cal P w K mg base (tab (clsOf CLightsError CBadWord CBadLine CRowReader)) "_law_number_word" 2 M_law_number_word := ⟨⟨_, _, _, K_law_number_word, PySem.W.mg_of X G a_law_number_word, k_law_number_word, B_law_number_word⟩⟩
  have K_law_word := ok_law_word (w := w) (base := base) N D_law_take D_law_number_word D_law_plain_word F_law_word
  have D_law_word : Cal P w K mg base (tab (clsOf CLightsError CBadWord CBadLine CRowReader)) "_law_word" 4 M_law_word := ⟨⟨_, _, _, K_law_word, PySem.W.mg_of X G a_law_word, k_law_word, B_law_word⟩⟩
  have K_law_nest := ok_law_nest (w := w) (base := base) N D_law_take D_law_plain_word D_law_word F_law_nest
  have D_law_nest : Cal P w K mg base (tab (clsOf CLightsError CBadWord CBadLine CRowReader)) "_law_nest" 5 M_law_nest := ⟨⟨_, _, _, K_law_nest, PySem.W.mg_of X G a_law_nest, k_law_nest, B_law_nest⟩⟩
  have K_law_edge := ok_law_edge (w := w) (base := base) N D_law_plain_word D_law_take F_law_edge
  have D_law_edge : Cal P w K mg base (tab (clsOf CLightsError CBadWord CBadLine CRowReader)) "_law_edge" 4 M_law_edge := ⟨⟨_, _, _, K_law_edge, PySem.W.mg_of X G a_law_edge, k_law_edge, B_law_edge⟩⟩
  have K_law_sign := ok_law_sign (w := w) (base := base) N D_law_take F_law_sign
  have D_law_sign : Cal P w K mg base (tab (clsOf CLightsError CBadWord CBadLine CRowReader)) "_law_sign" 2 M_law_sign := ⟨⟨_, _, _, K_law_sign, PySem.W.mg_of X G a_law_sign, k_law_sign, B_law_sign⟩⟩
  have K_law_text := ok_law_text (w := w) (base := base) N D_law_take D_law_sign D_law_nest D_law_edge D_law_written D_law_word F_law_text
  have D_law_text : Cal P w K mg base (tab (clsOf CLightsError CBadWord CBadLine CRowReader)) "_law_text" 6 M_law_text := ⟨⟨_, _, _, K_law_text, PySem.W.mg_of X G a_law_text, k_law_text, B_law_text⟩⟩
  have K_law_asked := ok_law_asked (w := w) (base := base) N D_read_row F_law_asked
  have D_law_asked : Cal P w K mg base (tab (clsOf CLightsError CBadWord CBadLine CRowReader)) "_law_asked" 6 M_law_asked := ⟨⟨_, _, _, K_law_asked, PySem.W.mg_of X G a_law_asked, k_law_asked, B_law_asked⟩⟩
  have K_law_base_told := ok_law_base_told (w := w) (base := base) N D_read_row F_law_base_told
  have D_law_base_told : Cal P w K mg base (tab (clsOf CLightsError CBadWord CBadLine CRowReader)) "_law_base_told" 6 M_law_base_told := ⟨⟨_, _, _, K_law_base_told, PySem.W.mg_of X G a_law_base_told, k_law_base_told, B_law_base_told⟩⟩
  have K_law_read_right := ok_law_read_right (w := w) (base := base) N D_law_read D_law_asked D_law_same D_law_base_told F_law_read_right
  have D_law_read_right : Cal P w K mg base (tab (clsOf CLightsError CBadWord CBadLine CRowReader)) "_law_read_right" 9 M_law_read_right := ⟨⟨_, _, _, K_law_read_right, PySem.W.mg_of X G a_law_read_right, k_law_read_right, B_law_read_right⟩⟩
  have K_law_written_right := ok_law_written_right (w := w) (base := base) N D_law_written D_row_text D_law_same F_law_written_right
  have D_law_written_right : Cal P w K mg base (tab (clsOf CLightsError CBadWord CBadLine CRowReader)) "_law_written_right" 9 M_law_written_right := ⟨⟨_, _, _, K_law_written_right, PySem.W.mg_of X G a_law_written_right, k_law_written_right, B_law_written_right⟩⟩
  have K_law := ok_law (w := w) (base := base) N D_law_hand D_law_take D_law_row D_law_written_right D_law_written D_law_read_right D_law_text F_law
  have D_law : Cal P w K mg base (tab (clsOf CLightsError CBadWord CBadLine CRowReader)) "law" 10 M_law := ⟨⟨_, _, _, K_law, PySem.W.mg_of X G a_law, k_law, B_law⟩⟩
  exact K_law.imp fun vs H Q E h => by
    obtain ⟨a, ns, rfl, hS, hn, hb, hq⟩ := h
    obtain ⟨outs, e⟩ := hmath ns hn hb
    exact law_sp2 hS e hq
theorem walk {l : PySem.W.OpenLaw} {q : Program} {loose : List Str} {XP : (Str → Option Value) → Heap → Prop} {YP : World → Heap → Prop} {d : DefRec} {K : Params → PySem.W.Frag} (hn : l.most = some 63) (hdf : d.params.defaults = [])
    (hY : ∀ (w : World) (h : Heap), YP w h → (K w.params).In h)
    (F : ∀ (w : World) (mg : Str → Option Value) (fa : Addr) (h : Heap), (K w.params).In h → h.Ns mainGlobals mg → mg d.name = some (.ref fa) →
      ∃ fd : FuncData, (∀ (s : Shared) (u : Value), BindsTo s fd ⟨[u], []⟩ [("script", u)]) ∧ ∀ base : Heap, (K w.params).In base → base.Ns mainGlobals mg → FnOk l.prog w (K w.params) mg base (L2.CX l.prog w) 10 fa fd ["script"] (spLaw (K w.params))) :
    PySem.W.WalkO q loose XP YP l.row.toRowW d [] (fun f vs => PySem.call f vs) :=
  L2.walk_ofB (n := 63) (k := 10) (x := "script") (CX := fun w => L2.CX l.prog w) (sp := fun w => spLaw (K w.params)) hn (by decide) hdf ⟨rfl, by decide, by decide⟩ hY F (fun _ _ a ns hl hb _ hS => ⟨a, ns, rfl, hS, hl, hb, fun _ => rfl⟩) fun _ _ _ _ _ ⟨_, _, _, _, _, _, _, _, _, _, _, _, z⟩ => z
end Gk
set_option Elab.async false
set_option linter.all false
set_option maxRecDepth 100000
set_option maxHeartbeats 4000000
/-! Sx: mirrors run by simp: one step a combinator, what follows stays folded. -/
namespace Ml
open L2
section
variable {α β : Type} {r : Rho} {m n : EM D} {ma mb mc : EM AD} {mas : EM (List AD)} {a b : SM} {tm tn : EM Bool} {ml : EM (List D)} {mv : EM Slot}
@[simp] theorem bind_ok (x : α) (r : Rho) (f : α → Rho → EO β) : EO.bind (.ok x r) f = f x r := rfl
@[simp] theorem bind_exc (c : Nat) (fs : List D) (r : Rho) (f : α → Rho → EO β) : EO.bind (.exc c fs r) f = .exc c fs r := rfl
@[simp] theorem seq_ok (x : α) (r : Rho) (f : α → Rho → SO) : EO.seq (.ok x r) f = f x r := rfl
@[simp] theorem seq_exc (c : Nat) (fs : List D) (r : Rho) (f : α → Rho → SO) : EO.seq (.exc c fs r) f = .exc c fs r := rfl
@[simp] theorem opt_some (z : α) (r : Rho) : EO.opt (some z) r = .ok z r := rfl
-- leaves
@[simp] theorem x_c (d : D) : e_c d r = .ok d r := rfl
def kvar : Option Slot → Rho → EO D
  | some (.fz d), r => .ok d r
  | _, _ => .bad
@[simp] theorem x_var (i : Nat) : e_var i r = kvar r[i]? r := by unfold e_var kvar; split <;> simp_all
@[simp] theorem kvar_fz (d : D) : kvar (some (.fz d)) r = .ok d r := rfl
def kpd : D → Rho → EO AD := fun d r => .ok (.d d) r
@[simp] theorem x_pd : p_d m r = (m r).bind kpd := rfl
@[simp] theorem kpd_eq (d : D) : kpd d r = .ok (.d d) r := rfl
def kow (i : Nat) : Option Slot → Rho → EO AD
  | some (.own _), r => .ok (.ow i) r
  | some (.obj _ _), r => .ok (.ow i) r
  | some (.tr (.fz _)), _ => .bad
  | some (.tr _), r => .ok (.ow i) r
  | _, _ => .bad
@[simp] theorem x_ow (i : Nat) : p_ow i r = kow i r[i]? r := by
  unfold p_ow
  cases r[i]? with
  | none => rfl
  | some s =>
    cases s with
    | tr t => cases t <;> rfl
    | _ => rfl
@[simp] theorem kow_own (i : Nat) (ds : List D) : kow i (some (.own ds)) r = .ok (.ow i) r := rfl
@[simp] theorem kow_obj (i c : Nat) (ds : List D) : kow i (some (.obj c ds)) r = .ok (.ow i) r := rfl
@[simp] theorem kow_tup (i : Nat) (ts : List O) : kow i (some (.tr (.tup ts))) r = .ok (.ow i) r := rfl
@[simp] theorem kow_lst (i : Nat) (ts : List O) : kow i (some (.tr (.lst ts))) r = .ok (.ow i) r := rfl
@[simp] theorem kow_tob (i c : Nat) (ts : List O) : kow i (some (.tr (.obj c ts))) r = .ok (.ow i) r := rfl
@[simp] theorem res_d (d : D) : res r (.d d) = some d := rfl
def kres : Option Slot → Option D
  | some (.own ds) => some (.lst ds)
  | some (.obj c ds) => some (.ins c ds)
  | _ => none
@[simp] theorem res_ow (i : Nat) : res r (.ow i) = kres r[i]? := rfl
@[simp] theorem kres_own (ds : List D) : kres (some (.own ds)) = some (.lst ds) := rfl
def kress : Option D → Option (List D) → Option (List D)
  | some d, some ds => some (d :: ds)
  | _, _ => none
@[simp] theorem ress_nil : ress r [] = some [] := rfl
@[simp] theorem ress_cons (x : AD) (xs : List AD) : ress r (x :: xs) = kress (res r x) (ress r xs) := by
  conv => lhs; unfold ress
  cases res r x <;> cases ress r xs <;> rfl
@[simp] theorem kress_some (d : D) (ds : List D) : kress (some d) (some ds) = some (d :: ds) := rfl
-- operators
def k1m (f : D → Option α) : Option D → Rho → EO α
  | some dx, r => EO.opt (f dx) r
  | none, _ => .bad
def k1 (f : D → Option α) : AD → Rho → EO α := fun x r => k1m f (res r x) r
@[simp] theorem x_o1 (f : D → Option α) : o1 f ma r = (ma r).bind (k1 f) := by
  unfold o1 k1; congr; funext x r; cases res r x <;> rfl
@[simp] theorem k1_eq (f : D → Option α) (x : AD) : k1 f x r = k1m f (res r x) r := rfl
@[simp] theorem k1m_some (f : D → Option α) (d : D) : k1m f (some d) r = EO.opt (f d) r := rfl
def k2m (f : D → D → Option α) : Option D → Option D → Rho → EO α
  | some dx, some dy, r => EO.opt (f dx dy) r
  | _, _, _ => .bad
def k2b (f : D → D → Option α) (x : AD) : AD → Rho → EO α := fun y r => k2m f (res r x) (res r y) r
def k2a (f : D → D → Option α) (mb : EM AD) : AD → Rho → EO α := fun x r => (mb r).bind (k2b f x)
@[simp] theorem x_o2 (f : D → D → Option α) : o2 f ma mb r = (ma r).bind (k2a f mb) := by
  unfold o2 k2a k2b; congr; funext x r; congr; funext y r; cases res r x <;> cases res r y <;> rfl
@[simp] theorem k2a_eq (f : D → D → Option α) (x : AD) : k2a f mb x r = (mb r).bind (k2b f x) := rfl
@[simp] theorem k2b_eq (f : D → D → Option α) (x y : AD) : k2b f x y r = k2m f (res r x) (res r y) r := rfl
@[simp] theorem k2m_some (f : D → D → Option α) (x y : D) : k2m f (some x) (some y) r = EO.opt (f x y) r := rfl
def ksm (f : List D → Option α) : Option (List D) → Rho → EO α
  | some ds, r => EO.opt (f ds) r
  | none, _ => .bad
def ksa (f : List D → Option α) : List AD → Rho → EO α := fun xs r => ksm f (ress r xs) r
@[simp] theorem x_os (f : List D → Option α) : os f mas r = (mas r).bind (ksa f) := by
  unfold os ksa; congr; funext x r; cases ress r x <;> rfl
@[simp] theorem ksa_eq (f : List D → Option α) (xs : List AD) : ksa f xs r = ksm f (ress r xs) r := rfl
@[simp] theorem ksm_some (f : List D → Option α) (ds : List D) : ksm f (some ds) r = EO.opt (f ds) r := rfl
@[simp] theorem x_anil : a_nil r = .ok [] r := rfl
def kac2 (x : AD) : List AD → Rho → EO (List AD) := fun xs r => .ok (x :: xs) r
def kac1 (m : EM (List AD)) : AD → Rho → EO (List AD) := fun x r => (m r).bind (kac2 x)
@[simp] theorem x_acons : a_cons ma mas r = (ma r).bind (kac1 mas) := rfl
@[simp] theorem kac1_eq (x : AD) : kac1 mas x r = (mas r).bind (kac2 x) := rfl
@[simp] theorem kac2_eq (x : AD) (xs : List AD) : kac2 x xs r = .ok (x :: xs) r := rfl
def kls : List D → Rho → EO D := fun ds r => .ok (.lst ds) r
@[simp] theorem x_elst : e_lst ml r = (ml r).bind kls := rfl
@[simp] theorem kls_eq (ds : List D) : kls ds r = .ok (.lst ds) r := rfl
-- tests
def ktb : D → Rho → EO Bool := fun d r => EO.opt (bol d) r
@[simp] theorem x_tbol : t_bol m r = (m r).bind ktb := rfl
@[simp] theorem ktb_bl (b : Bool) : ktb (.bl b) r = .ok b r := rfl
def ktn : Bool → Rho → EO Bool := fun k r => .ok (!k) r
@[simp] theorem x_tnot : t_not tm r = (tm r).bind ktn := rfl
@[simp] theorem ktn_eq (b : Bool) : ktn b r = .ok (!b) r := rfl
def kta (n : EM Bool) : Bool → Rho → EO Bool := fun k r => if k = true then n r else .ok false r
@[simp] theorem x_tand : t_and tm tn r = (tm r).bind (kta tn) := rfl
@[simp] theorem kta_t : kta tn true r = tn r := rfl
@[simp] theorem kta_f : kta tn false r = .ok false r := rfl
def kto (n : EM Bool) : Bool → Rho → EO Bool := fun k r => if k = true then .ok true r else n r
@[simp] theorem x_tor : t_or tm tn r = (tm r).bind (kto tn) := rfl
@[simp] theorem kto_t : kto tn true r = .ok true r := rfl
@[simp] theorem kto_f : kto tn false r = tn r := rfl
def kea (n : EM D) : D → Rho → EO D := fun d r => match d with
  | .bl true => n r
  | .bl false => .ok (.bl false) r
  | _ => .bad
@[simp] theorem x_eand : e_and m n r = (m r).bind (kea n) := rfl
@[simp] theorem kea_t : kea n (.bl true) r = n r := rfl
@[simp] theorem kea_f : kea n (.bl false) r = .ok (.bl false) r := rfl
def keo (n : EM D) : D → Rho → EO D := fun d r => match d with
  | .bl true => .ok (.bl true) r
  | .bl false => n r
  | _ => .bad
@[simp] theorem x_eor : e_or m n r = (m r).bind (keo n) := rfl
@[simp] theorem keo_t : keo n (.bl true) r = .ok (.bl true) r := rfl
@[simp] theorem keo_f : keo n (.bl false) r = n r := rfl
def ken : D → Rho → EO D := fun d r => match d with
  | .bl b => .ok (.bl (!b)) r
  | _ => .bad
@[simp] theorem x_enot : e_not m r = (m r).bind ken := rfl
@[simp] theorem ken_eq (b : Bool) : ken (.bl b) r = .ok (.bl (!b)) r := rfl
def kif (m n : EM D) : Bool → Rho → EO D := fun k r => if k = true then m r else n r
@[simp] theorem x_eif : e_if tm m n r = (tm r).bind (kif m n) := rfl
@[simp] theorem kif_t : kif m n true r = m r := rfl
@[simp] theorem kif_f : kif m n false r = n r := rfl
-- tuples, lists
@[simp] theorem dats_nil : dats [] = some [] := rfl
@[simp] theorem dats_cons (d : D) (as : List AD) : dats (.d d :: as) = (dats as).map (d :: ·) := rfl
def ktu : Option (List D) → Rho → EO D
  | some ds, r => if ds.length ≤ SZ then .ok (.tup ds) r else .bad
  | none, _ => .bad
def ktua : List AD → Rho → EO D := fun as r => ktu (dats as) r
@[simp] theorem x_etup : e_tup mas r = (mas r).bind ktua := by unfold e_tup ktua; congr; funext as r; cases dats as <;> rfl
@[simp] theorem ktua_eq (as : List AD) : ktua as r = ktu (dats as) r := rfl
@[simp] theorem ktu_some (ds : List D) : ktu (some ds) r = if ds.length ≤ SZ then .ok (.tup ds) r else .bad := rfl
def kll : Option (List D) → Rho → EO (List D)
  | some ds, r => if ds.length ≤ SZ then .ok ds r else .bad
  | none, _ => .bad
def klla : List AD → Rho → EO (List D) := fun as r => kll (dats as) r
@[simp] theorem x_llst : l_lst mas r = (mas r).bind klla := by unfold l_lst klla; congr; funext as r; cases dats as <;> rfl
@[simp] theorem klla_eq (as : List AD) : klla as r = kll (dats as) r := rfl
@[simp] theorem kll_some (ds : List D) : kll (some ds) r = if ds.length ≤ SZ then .ok ds r else .bad := rfl
-- statements
def thn (b : SM) : SO → SO
  | .nx r => b r
  | o => o
@[simp] theorem x_seq : s_seq a b r = thn b (a r) := by unfold s_seq thn; cases a r <;> rfl
@[simp] theorem thn_nx : thn b (.nx r) = b r := rfl
@[simp] theorem thn_rt (s : Slot) : thn b (.rt s r) = .rt s r := rfl
@[simp] theorem thn_exc (c : Nat) (fs : List D) : thn b (.exc c fs r) = .exc c fs r := rfl
@[simp] theorem thn_brk : thn b (.brk r) = .brk r := rfl
@[simp] theorem thn_cnt : thn b (.cnt r) = .cnt r := rfl
@[simp] theorem x_nil : s_nil r = .nx r := rfl
@[simp] theorem x_brk : s_brk r = .brk r := rfl
@[simp] theorem x_cnt : s_cnt r = .cnt r := rfl
def ksi (a b : SM) : Bool → Rho → SO := fun k r => if k = true then a r else b r
@[simp] theorem x_if : s_if tm a b r = (tm r).seq (ksi a b) := rfl
@[simp] theorem ksi_t : ksi a b true r = a r := rfl
@[simp] theorem ksi_f : ksi a b false r = b r := rfl
def kset (i : Nat) : D → Rho → SO := fun d r => .nx (r.set i (.fz d))
@[simp] theorem x_set (i : Nat) : s_set i m r = (m r).seq (kset i) := rfl
@[simp] theorem kset_eq (i : Nat) (d : D) : kset i d r = .nx (r.set i (.fz d)) := rfl
def kown (i : Nat) : List D → Rho → SO := fun ds r => .nx (r.set i (.own ds))
@[simp] theorem x_own (i : Nat) : s_own i ml r = (ml r).seq (kown i) := rfl
@[simp] theorem kown_eq (i : Nat) (ds : List D) : kown i ds r = .nx (r.set i (.own ds)) := rfl
def kret : D → Rho → SO := fun d r => .rt (.fz d) r
@[simp] theorem x_ret : s_ret m r = (m r).seq kret := rfl
@[simp] theorem kret_eq (d : D) : kret d r = .rt (.fz d) r := rfl
def kretV : Slot → Rho → SO := fun s r => .rt s r
@[simp] theorem x_retV : s_retV mv r = (mv r).seq kretV := rfl
@[simp] theorem kretV_eq (s : Slot) : kretV s r = .rt s r := rfl
@[simp] theorem x_retN : s_retN r = .rt (.fz .non) r := rfl
def kdo : D → Rho → SO := fun _ r => .nx r
@[simp] theorem x_do : s_do m r = (m r).seq kdo := rfl
@[simp] theorem kdo_eq (d : D) : kdo d r = .nx r := rfl
def kdoV : Slot → Rho → SO := fun _ r => .nx r
@[simp] theorem x_doV : s_doV mv r = (mv r).seq kdoV := rfl
@[simp] theorem kdoV_eq (s : Slot) : kdoV s r = .nx r := rfl
def ksV (i : Nat) : Slot → Rho → SO := fun s r => .nx (r.set i s)
@[simp] theorem x_setV (i : Nat) : s_setV i mv r = (mv r).seq (ksV i) := rfl
@[simp] theorem ksV_eq (i : Nat) (s : Slot) : ksV i s r = .nx (r.set i s) := rfl
def kvo : List D → Rho → EO Slot := fun ds r => .ok (.own ds) r
@[simp] theorem x_vown : v_own ml r = (ml r).bind kvo := rfl
@[simp] theorem kvo_eq (ds : List D) : kvo ds r = .ok (.own ds) r := rfl
def kvf : D → Rho → EO Slot := fun d r => .ok (.fz d) r
@[simp] theorem x_vfz : v_fz m r = (m r).bind kvf := rfl
@[simp] theorem kvf_eq (d : D) : kvf d r = .ok (.fz d) r := rfl
-- x[i] = e
def kp3 (k : Nat) (d : D) : D → Rho → SO := fun i r => match r[k]?, i with
  | some (.own ds), .int n => (match ixN ds.length n with
    | some j => .nx (r.set k (.own (ds.set j d)))
    | none => .bad)
  | _, _ => .bad
def kp2 (k : Nat) (mi : EM D) (d : D) : AD → Rho → SO := fun _ r => (mi r).seq (kp3 k d)
def kp1 (k : Nat) (mi : EM D) : D → Rho → SO := fun d r => (p_ow k r).seq (kp2 k mi d)
@[simp] theorem x_put (k : Nat) : s_put k m n r = (n r).seq (kp1 k m) := rfl
@[simp] theorem kp1_eq (k : Nat) (d : D) : kp1 k m d r = (p_ow k r).seq (kp2 k m d) := rfl
@[simp] theorem kp2_eq (k : Nat) (d : D) (x : AD) : kp2 k m d x r = (m r).seq (kp3 k d) := rfl
def kp4 (k : Nat) (d : D) (n : Int) : Option Slot → Rho → SO
  | some (.own ds), r => (match ixN ds.length n with
    | some j => .nx (r.set k (.own (ds.set j d)))
    | none => .bad)
  | _, _ => .bad
@[simp] theorem kp3_eq (k : Nat) (d : D) (n : Int) : kp3 k d (.int n) r = kp4 k d n r[k]? r := by unfold kp3 kp4; split <;> simp_all
@[simp] theorem kp4_eq (k : Nat) (d : D) (n : Int) (ds : List D) : kp4 k d n (some (.own ds)) r = (match ixN ds.length n with
    | some j => .nx (r.set k (.own (ds.set j d)))
    | none => .bad) := rfl
-- defs, calls
def outD (ss : Rho) : SO → FO
  | .rt s r => .ret s (keepO ss r)
  | .nx r => .ret (.fz .non) (keepO ss r)
  | .exc c fs r => .exc c fs (keepO ss r)
  | _ => .bad
theorem defM_run {io : List Nat} {np nl : Nat} {body : SM} {ss : Rho} (h1 : ss.length = np) (h2 : ixOwn 0 ss = io) : defM io np nl body ss = outD ss (body (ss ++ List.replicate nl .un)) := by
  unfold defM; rw [if_pos ⟨h1, h2⟩]; unfold outD; split <;> simp_all
@[simp] theorem outD_rt (ss : Rho) (s : Slot) : outD ss (.rt s r) = .ret s (keepO ss r) := rfl
@[simp] theorem outD_nx (ss : Rho) : outD ss (.nx r) = .ret (.fz .non) (keepO ss r) := rfl
@[simp] theorem outD_exc (ss : Rho) (c : Nat) (fs : List D) : outD ss (.exc c fs r) = .exc c fs (keepO ss r) := rfl
@[simp] theorem keepO_nil : keepO [] r = [] := by unfold keepO; cases r <;> rfl
@[simp] theorem keepO_cons (s t : Slot) (ss r : Rho) : keepO (s :: ss) (t :: r) = (if isOwn s = true then t else .un) :: keepO ss r := rfl
end
end Ml
set_option Elab.async false
set_option linter.all false
set_option maxRecDepth 100000
set_option maxHeartbeats 4000000
/-! Sx2: .. calls, loops, comprehensions. -/
namespace Ml
open L2
section
variable {α β : Type} {r : Rho} {m n : EM D} {ma mb mc : EM AD} {mas : EM (List AD)} {a b : SM} {tm tn : EM Bool} {ml : EM (List D)} {mv : EM Slot} {M : Rho → FO}
@[simp] theorem slots_nil : slots r [] = some [] := rfl
def ksl1 (d : D) : Option Rho → Option Rho
  | some ss => some (.fz d :: ss)
  | none => none
@[simp] theorem slots_d (d : D) (as : List AD) : slots r (.d d :: as) = ksl1 d (slots r as) := by
  conv => lhs; unfold slots
  cases slots r as <;> rfl
@[simp] theorem ksl1_some (d : D) (ss : Rho) : ksl1 d (some ss) = some (.fz d :: ss) := rfl
def ksl2 : Option Slot → Option Rho → Option Rho
  | some s, some ss => if isOwn s = true then some (s :: ss) else none
  | _, _ => none
@[simp] theorem slots_ow (i : Nat) (as : List AD) : slots r (.ow i :: as) = ksl2 r[i]? (slots r as) := by
  conv => lhs; unfold slots
  cases r[i]? <;> cases slots r as <;> rfl
@[simp] theorem ksl2_own (ds : List D) (ss : Rho) : ksl2 (some (.own ds)) (some ss) = some (.own ds :: ss) := rfl
@[simp] theorem ksl2_obj (c : Nat) (ds : List D) (ss : Rho) : ksl2 (some (.obj c ds)) (some ss) = some (.obj c ds :: ss) := rfl
@[simp] theorem ksl2_tup (ts : List O) (ss : Rho) : ksl2 (some (.tr (.tup ts))) (some ss) = some (.tr (.tup ts) :: ss) := rfl
@[simp] theorem ksl2_lst (ts : List O) (ss : Rho) : ksl2 (some (.tr (.lst ts))) (some ss) = some (.tr (.lst ts) :: ss) := rfl
@[simp] theorem ksl2_tob (c : Nat) (ts : List O) (ss : Rho) : ksl2 (some (.tr (.obj c ts))) (some ss) = some (.tr (.obj c ts) :: ss) := rfl
@[simp] theorem put_nil (os : Rho) : put r [] os = some r := by cases os <;> rfl
@[simp] theorem put_d (d : D) (as : List AD) (o : Slot) (os : Rho) : put r (.d d :: as) (o :: os) = put r as os := rfl
@[simp] theorem put_own (i : Nat) (as : List AD) (ds : List D) (os : Rho) : put r (.ow i :: as) (.own ds :: os) = put (r.set i (.own ds)) as os := rfl
@[simp] theorem put_obj (i c : Nat) (as : List AD) (ds : List D) (os : Rho) : put r (.ow i :: as) (.obj c ds :: os) = put (r.set i (.obj c ds)) as os := rfl
@[simp] theorem put_tup (i : Nat) (as : List AD) (ts : List O) (os : Rho) : put r (.ow i :: as) (.tr (.tup ts) :: os) = put (r.set i (.tr (.tup ts))) as os := rfl
@[simp] theorem put_lst (i : Nat) (as : List AD) (ts : List O) (os : Rho) : put r (.ow i :: as) (.tr (.lst ts) :: os) = put (r.set i (.tr (.lst ts))) as os := rfl
@[simp] theorem put_tob (i c : Nat) (as : List AD) (ts : List O) (os : Rho) : put r (.ow i :: as) (.tr (.obj c ts) :: os) = put (r.set i (.tr (.obj c ts))) as os := rfl
@[simp] theorem nd_nil : ndOw [] = true := rfl
@[simp] theorem nd_d (d : D) (as : List AD) : ndOw (.d d :: as) = ndOw as := rfl
@[simp] theorem nd_ow (i : Nat) (as : List AD) : ndOw (.ow i :: as) = (if hasOw i as = true then false else ndOw as) := rfl
@[simp] theorem ho_nil (i : Nat) : hasOw i [] = false := rfl
@[simp] theorem ho_d (i : Nat) (d : D) (as : List AD) : hasOw i (.d d :: as) = hasOw i as := rfl
@[simp] theorem ho_ow (i j : Nat) (as : List AD) : hasOw i (.ow j :: as) = (if j = i then true else hasOw i as) := rfl
def kpt (s : Slot) : Option Rho → EO Slot
  | some r2 => .ok s r2
  | none => .bad
def kpx (c : Nat) (fs : List D) : Option Rho → EO Slot
  | some r2 => .exc c fs r2
  | none => .bad
@[simp] theorem kpt_some (s : Slot) (r2 : Rho) : kpt s (some r2) = .ok s r2 := rfl
@[simp] theorem kpx_some (c : Nat) (fs : List D) (r2 : Rho) : kpx c fs (some r2) = .exc c fs r2 := rfl
def kcp (as : List AD) (r : Rho) : FO → EO Slot
  | .ret s outs => kpt s (put r as outs)
  | .exc c fs outs => kpx c fs (put r as outs)
  | .bad => .bad
@[simp] theorem kcp_ret (as : List AD) (s : Slot) (outs : Rho) : kcp as r (.ret s outs) = kpt s (put r as outs) := rfl
@[simp] theorem kcp_exc (as : List AD) (c : Nat) (fs : List D) (outs : Rho) : kcp as r (.exc c fs outs) = kpx c fs (put r as outs) := rfl
def kca (M : Rho → FO) (as : List AD) (r : Rho) : Option Rho → EO Slot
  | some ss => if ndOw as = true then kcp as r (M ss) else .bad
  | none => .bad
@[simp] theorem x_call (as : List AD) : call M as r = kca M as r (slots r as) := by
  unfold call kca
  cases slots r as with
  | none => rfl
  | some ss =>
    dsimp only
    split
    · unfold kcp
      cases M ss with
      | ret s outs => dsimp only; cases put r as outs <;> rfl
      | exc c fs outs => dsimp only; cases put r as outs <;> rfl
      | bad => rfl
    · rfl
@[simp] theorem kca_some (as : List AD) (ss : Rho) : kca M as r (some ss) = if ndOw as = true then kcp as r (M ss) else .bad := rfl
def kfz : Slot → Rho → EO D := fun s r => match s with
  | .fz d => .ok d r
  | _ => .bad
@[simp] theorem kfz_fz (d : D) : kfz (.fz d) r = .ok d r := rfl
def kec (M : Rho → FO) : List AD → Rho → EO D := fun as r => (call M as r).bind kfz
@[simp] theorem x_ecall : e_call M mas r = (mas r).bind (kec M) := rfl
@[simp] theorem kec_eq (as : List AD) : kec M as r = (call M as r).bind kfz := rfl
def kol : Slot → Rho → EO (List D) := fun s r => match s with
  | .own ds => .ok ds r
  | _ => .bad
@[simp] theorem kol_own (ds : List D) : kol (.own ds) r = .ok ds r := rfl
def klc (M : Rho → FO) : List AD → Rho → EO (List D) := fun as r => (call M as r).bind kol
@[simp] theorem x_lcall : l_call M mas r = (mas r).bind (klc M) := rfl
@[simp] theorem klc_eq (as : List AD) : klc M as r = (call M as r).bind kol := rfl
def kvc (M : Rho → FO) : List AD → Rho → EO Slot := fun as r => call M as r
@[simp] theorem x_vcall : v_call M mas r = (mas r).bind (kvc M) := rfl
@[simp] theorem kvc_eq (as : List AD) : kvc M as r = call M as r := rfl
@[simp] theorem x_ofV : e_ofV mv r = (mv r).bind kfz := rfl
-- ranges, walks
def kr1 : Option (List D) → Rho → EO (List D)
  | some [.int n], r => if inRng n = true then .ok (rngD 0 n) r else .bad
  | _, _ => .bad
def kr1a : List AD → Rho → EO (List D) := fun as r => kr1 (dats as) r
@[simp] theorem x_rng1 : i_rng1 mas r = (mas r).bind kr1a := by unfold i_rng1 kr1a; congr; funext as r; unfold kr1; split <;> simp_all
@[simp] theorem kr1a_eq (as : List AD) : kr1a as r = kr1 (dats as) r := rfl
@[simp] theorem kr1_eq (n : Int) : kr1 (some [.int n]) r = if inRng n = true then .ok (rngD 0 n) r else .bad := rfl
def kan : D → Rho → EO (List D) := fun d r => match d with
  | .str x => .ok (sgnD x) r
  | d => (match seqOf d with
    | some (_, ds) => .ok ds r
    | none => .bad)
@[simp] theorem x_any : i_any m r = (m r).bind kan := rfl
@[simp] theorem kan_str (x : PySem.Str) : kan (.str x) r = .ok (sgnD x) r := rfl
@[simp] theorem kan_lst (ds : List D) : kan (.lst ds) r = .ok ds r := rfl
@[simp] theorem kan_tup (ds : List D) : kan (.tup ds) r = .ok ds r := rfl
def klp (vs : List Nat) (gb : D → Rho → Option Rho) (tt : EM Bool) (te : EM D) : List D → Rho → EO (List D) := fun ds r => lcD vs gb tt te ds [] r
@[simp] theorem x_lc (vs : List Nat) (mi : EM (List D)) (gb : D → Rho → Option Rho) : l_lc vs mi gb tm m r = (mi r).bind (klp vs gb tm m) := rfl
@[simp] theorem klp_eq (vs : List Nat) (gb : D → Rho → Option Rho) (ds : List D) : klp vs gb tm m ds r = lcD vs gb tm m ds [] r := rfl
@[simp] theorem x_yes : t_yes r = .ok true r := rfl
def kfor (gb : D → Rho → Option Rho) (b : SM) : List D → Rho → SO := fun ds r => forD gb b ds r
@[simp] theorem x_for (mi : EM (List D)) (gb : D → Rho → Option Rho) : s_for mi gb b r = (mi r).seq (kfor gb b) := rfl
@[simp] theorem kfor_eq (gb : D → Rho → Option Rho) (ds : List D) : kfor gb b ds r = forD gb b ds r := rfl
/-- a walk by an invariant -/
theorem forD_inv {gb : D → Rho → Option Rho} {b : SM} (I : List D → Rho → Prop) (step : ∀ d ds r, I (d :: ds) r → ∃ r1 r2, gb d r = some r1 ∧ (b r1 = .nx r2 ∨ b r1 = .cnt r2) ∧ I ds r2) : ∀ (ds : List D) (r : Rho), I ds r → ∃ r', forD gb b ds r = .nx r' ∧ I [] r'
  | [], r, h => ⟨r, rfl, h⟩
  | d :: ds, r, h => by
    obtain ⟨r1, r2, h1, h2, h3⟩ := step d ds r h
    obtain ⟨r', h4, h5⟩ := forD_inv I step ds r2 h3
    refine ⟨r', ?_, h5⟩
    unfold forD
    rw [h1]
    dsimp only
    rcases h2 with h2 | h2 <;> (rw [h2]; exact h4)
/-- a comprehension without if, by an invariant of the slots; the elements told one by one -/
theorem lcD_inv {vs : List Nat} {gb : D → Rho → Option Rho} {te : EM D} (I : List D → Rho → Prop) (P : D → D → Prop) (step : ∀ d ds r, I (d :: ds) r → ∃ r1 y r3, gb d (wipeR r vs) = some r1 ∧ te r1 = .ok y r3 ∧ P d y ∧ I ds (restR r r3 vs)) :
    ∀ (ds acc : List D) (r : Rho), acc.length + ds.length ≤ SZ → I ds r → ∃ (ys : List D) (r' : Rho), lcD vs gb t_yes te ds acc r = .ok (acc ++ ys) r' ∧ ys.length = ds.length ∧ (∀ (i : Nat) (d y : D), ds[i]? = some d → ys[i]? = some y → P d y) ∧ I [] r'
  | [], acc, r, _, h => ⟨[], r, by simp [lcD], rfl, fun i d y e => by simp at e, h⟩
  | d :: ds, acc, r, hz, h => by
    obtain ⟨r1, y, r3, h1, h2, h3, h4⟩ := step d ds r h
    have hz' : acc.length + (ds.length + 1) ≤ SZ := by simpa using hz
    obtain ⟨ys, r', h5, h6, h7, h8⟩ := lcD_inv I P step ds (acc ++ [y]) (restR r r3 vs) (by simp; omega) h4
    refine ⟨y :: ys, r', ?_, by simp [h6], fun i d' y' e1 e2 => ?_, h8⟩
    · unfold lcD lcT
      rw [h1]
      simp only [x_yes, bind_ok, if_true, h2]
      rw [if_pos (by omega), h5]
      simp
    · cases i with
      | zero => simp at e1 e2; subst e1 e2; exact h3
      | succ i => exact h7 i d' y' (by simpa using e1) (by simpa using e2)
end
end Ml
set_option Elab.async false
set_option linter.all false
set_option maxRecDepth 100000
set_option maxHeartbeats 4000000
/-! Sx3: .. texts, list methods, slices, chains. -/
namespace Ml
open L2 PySem
section
variable {α β : Type} {r : Rho} {m n : EM D} {ma mb mc : EM AD} {mas : EM (List AD)} {a b : SM} {tm tn : EM Bool} {ml : EM (List D)} {mv : EM Slot} {M : Rho → FO}
def ksm2m (f : Str → List D → Option D) (x : Str) : Option (List D) → Rho → EO D
  | some ds, r => EO.opt (f x ds) r
  | none, _ => .bad
def ksm2 (f : Str → List D → Option D) (x : Str) : List AD → Rho → EO D := fun as r => ksm2m f x (ress r as) r
def ksm1 (f : Str → List D → Option D) (mas : EM (List AD)) : D → Rho → EO D := fun d r => match d with
  | .str x => (mas r).bind (ksm2 f x)
  | _ => .bad
@[simp] theorem x_sm (f : Str → List D → Option D) : e_sm f m mas r = (m r).bind (ksm1 f mas) := by
  unfold e_sm ksm1
  congr
  funext d r
  cases d with
  | str x => dsimp only; congr; funext as r; unfold ksm2; cases ress r as <;> rfl
  | _ => rfl
@[simp] theorem ksm1_eq (f : Str → List D → Option D) (x : Str) : ksm1 f mas (.str x) r = (mas r).bind (ksm2 f x) := rfl
@[simp] theorem ksm2_eq (f : Str → List D → Option D) (x : Str) (as : List AD) : ksm2 f x as r = ksm2m f x (ress r as) r := rfl
@[simp] theorem ksm2m_eq (f : Str → List D → Option D) (x : Str) (ds : List D) : ksm2m f x (some ds) r = EO.opt (f x ds) r := rfl
-- list methods on a name
def klm (k : Nat) (f : List D → List D → Option (D × List D)) (xs : List D) : Option Slot → Rho → EO D
  | some (.own ds), r => (match f ds xs with
    | some (z, ds') => .ok z (r.set k (.own ds'))
    | none => .bad)
  | _, _ => .bad
theorem x_lmAt (k : Nat) (f : List D → List D → Option (D × List D)) (xs : List D) : lmAt k f xs r = klm k f xs r[k]? r := by
  unfold lmAt klm
  cases r[k]? with
  | none => rfl
  | some s => cases s <;> rfl
@[simp] theorem klm_append (k : Nat) (ds : List D) (d : D) : klm k f_append [d] (some (.own ds)) r = if ds.length < SZ then .ok .non (r.set k (.own (ds ++ [d]))) else .bad := by
  unfold klm f_append
  dsimp only
  split
  · rename_i z ds' e
    split at e
    · cases e; rename_i h; rw [if_pos h]
    · cases e
  · rename_i e
    split at e
    · cases e
    · rename_i h; rw [if_neg h]
def kel2 (k : Nat) (f : List D → List D → Option (D × List D)) : Option (List D) → Rho → EO D
  | some xs, r => lmAt k f xs r
  | none, _ => .bad
def kel (k : Nat) (f : List D → List D → Option (D × List D)) : List AD → Rho → EO D := fun as r => kel2 k f (dats as) r
def kel0 (k : Nat) (f : List D → List D → Option (D × List D)) (mas : EM (List AD)) : Option Slot → Rho → EO D
  | some (.own _), r => (mas r).bind (kel k f)
  | _, _ => .bad
@[simp] theorem x_elm (k : Nat) (f : List D → List D → Option (D × List D)) : e_lm k f mas r = kel0 k f mas r[k]? r := by
  unfold e_lm kel0
  cases r[k]? with
  | none => rfl
  | some s =>
    cases s with
    | own ds => dsimp only; congr; funext as r; unfold kel; cases dats as <;> rfl
    | _ => rfl
@[simp] theorem kel0_own (k : Nat) (f : List D → List D → Option (D × List D)) (ds : List D) : kel0 k f mas (some (.own ds)) r = (mas r).bind (kel k f) := rfl
@[simp] theorem kel_eq (k : Nat) (f : List D → List D → Option (D × List D)) (as : List AD) : kel k f as r = kel2 k f (dats as) r := rfl
@[simp] theorem kel2_eq (k : Nat) (f : List D → List D → Option (D × List D)) (xs : List D) : kel2 k f (some xs) r = klm k f xs r[k]? r := x_lmAt k f xs
/-- a number's text -/
def sI (i : Int) : Str := Str.ofString (toString i)
@[simp] theorem f_str_int (i : Int) : f_str [.int i] = if i.natAbs.log2 < 1920 then some (.str (sI i)) else none := rfl
-- f-strings
def kfm : D → Rho → EO D := fun d r => match fmt d with
  | some y => .ok (.str y) r
  | none => .bad
@[simp] theorem x_fmt : e_fmt m r = (m r).bind kfm := rfl
@[simp] theorem kfm_str (x : Str) : kfm (.str x) r = if x.length ≤ SZ then .ok (.str x) r else .bad := by
  unfold kfm fmt; dsimp only; split
  · rename_i h; split at h
    · cases h; rename_i z; rw [if_pos z]
    · cases h
  · rename_i h; split at h
    · cases h
    · rename_i z; rw [if_neg z]
@[simp] theorem kfm_int (i : Int) : kfm (.int i) r = if i.natAbs.log2 < 1920 then .ok (.str (sI i)) r else .bad := by
  unfold kfm fmt sI; dsimp only; split
  · rename_i h; split at h
    · cases h; rename_i z; rw [if_pos z]
    · cases h
  · rename_i h; split at h
    · cases h
    · rename_i z; rw [if_neg z]
def kjn2 (ms : List (EM D)) (acc : Str) : D → Rho → EO Str := fun d r => match d with
  | .str y => if (acc ++ y).length ≤ SZ then jn ms (acc ++ y) r else .bad
  | _ => .bad
@[simp] theorem x_jnil (acc : Str) : jn [] acc r = .ok acc r := rfl
@[simp] theorem x_jcons (ms : List (EM D)) (acc : Str) : jn (m :: ms) acc r = (m r).bind (kjn2 ms acc) := rfl
@[simp] theorem kjn2_eq (ms : List (EM D)) (acc y : Str) : kjn2 ms acc (.str y) r = if (acc ++ y).length ≤ SZ then jn ms (acc ++ y) r else .bad := rfl
def kjn : Str → Rho → EO D := fun s r => .ok (.str s) r
@[simp] theorem x_jn (ms : List (EM D)) : e_jn ms r = (jn ms Str.empty r).bind kjn := rfl
@[simp] theorem kjn_eq (s : Str) : kjn s r = .ok (.str s) r := rfl
-- slices
@[simp] theorem x_no : p_no r = .ok none r := rfl
def kat : D → Rho → EO (Option Int) := fun d r => match d with
  | .int i => .ok (some i) r
  | _ => .bad
@[simp] theorem x_at : p_at m r = (m r).bind kat := rfl
@[simp] theorem kat_eq (i : Int) : kat (.int i) r = .ok (some i) r := rfl
def kslm (lo hi : Option Int) : Option D → Rho → EO D
  | some d, r => EO.opt (f_slice d lo hi) r
  | none, _ => .bad
def ksl3 (x : AD) (lo : Option Int) : Option Int → Rho → EO D := fun hi r => kslm lo hi (res r x) r
def ksl2' (x : AD) (mh : EMo) : Option Int → Rho → EO D := fun lo r => (mh r).bind (ksl3 x lo)
def ksl1' (ml mh : EMo) : AD → Rho → EO D := fun x r => (ml r).bind (ksl2' x mh)
@[simp] theorem x_slice (lo hi : EMo) : e_slice ma lo hi r = (ma r).bind (ksl1' lo hi) := by
  unfold e_slice ksl1' ksl2' ksl3
  congr; funext x r; congr; funext lo r; congr; funext hi r
  cases res r x <;> rfl
@[simp] theorem ksl1'_eq (lo hi : EMo) (x : AD) : ksl1' lo hi x r = (lo r).bind (ksl2' x hi) := rfl
@[simp] theorem ksl2'_eq (hi : EMo) (x : AD) (lo : Option Int) : ksl2' x hi lo r = (hi r).bind (ksl3 x lo) := rfl
@[simp] theorem ksl3_eq (x : AD) (lo hi : Option Int) : ksl3 x lo hi r = kslm lo hi (res r x) r := rfl
@[simp] theorem kslm_eq (lo hi : Option Int) (d : D) : kslm lo hi (some d) r = EO.opt (f_slice d lo hi) r := rfl
/-- a comprehension without if over data that changes nothing -/
theorem lcD_map {vs : List Nat} {gb : D → Rho → Option Rho} {te : EM D} (f : D → D) (r : Rho) : ∀ (ds acc : List D), (∀ d ∈ ds, ∃ r1 r3, gb d (wipeR r vs) = some r1 ∧ te r1 = .ok (f d) r3 ∧ restR r r3 vs = r) → acc.length + ds.length ≤ SZ → lcD vs gb t_yes te ds acc r = .ok (acc ++ ds.map f) r
  | [], acc, _, _ => by simp [lcD]
  | d :: ds, acc, h, hz => by
    obtain ⟨r1, r3, h1, h2, h3⟩ := h d List.mem_cons_self
    have hz' : acc.length + (ds.length + 1) ≤ SZ := by simpa using hz
    have ih := lcD_map f r ds (acc ++ [f d]) (fun d m => h d (List.mem_cons_of_mem _ m)) (by simp; omega)
    unfold lcD lcT
    rw [h1]
    simp only [x_yes, bind_ok, if_true, h2]
    rw [if_pos (by omega), h3, ih]
    simp
end
end Ml
set_option Elab.async false
set_option linter.all false
set_option maxRecDepth 100000
set_option maxHeartbeats 4000000
/-! Sx4: .. borrowing, places, methods. -/
namespace Ml
open L2 PySem
section
variable {α β : Type} {fl : Nat → Nat} {r : Rho} {m n : EM D} {ma mb mc : EM AD} {mas : EM (List AD)} {a b : SM} {tm tn : EM Bool} {ml : EM (List D)} {mv : EM Slot} {M : Rho → FO}
def kfa (s : Slot) : Option Rho → Option Rho
  | some r => some (s :: r)
  | none => none
@[simp] theorem kfa_some (s : Slot) (r : Rho) : kfa s (some r) = some (s :: r) := rfl
@[simp] theorem frAll_nil : frAll fl [] = some [] := rfl
@[simp] theorem frAll_fz (d : D) : frAll fl (.fz d :: r) = kfa (.fz d) (frAll fl r) := by
  conv => lhs; unfold frAll; simp only [tree]
  cases frAll fl r <;> rfl
@[simp] theorem frAll_un : frAll fl (.un :: r) = kfa .un (frAll fl r) := by
  conv => lhs; unfold frAll; simp only [tree]
  cases frAll fl r <;> rfl
@[simp] theorem frAll_exv (c : Nat) (ds : List D) : frAll fl (.exv c ds :: r) = kfa (.exv c ds) (frAll fl r) := by
  conv => lhs; unfold frAll; simp only [tree]
  cases frAll fl r <;> rfl
@[simp] theorem frAll_own (ds : List D) : frAll fl (.own ds :: r) = kfa (.fz (.lst ds)) (frAll fl r) := by
  conv => lhs; unfold frAll; simp only [tree, O.data, datas_fz, Option.map_some]
  cases frAll fl r <;> rfl
theorem frAll_tr {t : O} {d : D} (h1 : ∀ d, t ≠ .fz d) (h : O.data fl t = some d) : frAll fl (.tr t :: r) = kfa (.fz d) (frAll fl r) := by
  conv => lhs; unfold frAll
  have : tree (.tr t) = some t := by cases t <;> first | rfl | exact absurd rfl (h1 _)
  rw [this]; dsimp only; rw [h]
  cases frAll fl r <;> rfl
def ktb2 (r : Rho) : EO Bool → EO Bool
  | .ok b _ => .ok b r
  | _ => .bad
@[simp] theorem ktb2_ok (b : Bool) (r' : Rho) : ktb2 r (.ok b r') = .ok b r := rfl
def ktb1 (m : EM Bool) (r : Rho) : Option Rho → EO Bool
  | some r0 => ktb2 r (m r0)
  | none => .bad
@[simp] theorem ktb1_some (m : EM Bool) (r0 : Rho) : ktb1 m r (some r0) = ktb2 r (m r0) := rfl
@[simp] theorem x_tbor (m : EM Bool) : t_bor fl m r = ktb1 m r (frAll fl r) := by
  unfold t_bor ktb1 ktb2
  cases frAll fl r with
  | none => rfl
  | some r0 => first | rfl | (dsimp only; cases m r0 <;> rfl)
def keb2 (r : Rho) : EO D → EO D
  | .ok d _ => if scal d = true then .ok d r else .bad
  | _ => .bad
@[simp] theorem keb2_bl (b : Bool) (r' : Rho) : keb2 r (.ok (.bl b) r') = .ok (.bl b) r := rfl
@[simp] theorem keb2_int (b : Int) (r' : Rho) : keb2 r (.ok (.int b) r') = .ok (.int b) r := rfl
@[simp] theorem keb2_str (b : Str) (r' : Rho) : keb2 r (.ok (.str b) r') = .ok (.str b) r := rfl
@[simp] theorem keb2_non (r' : Rho) : keb2 r (.ok .non r') = .ok .non r := rfl
def keb1 (m : EM D) (r : Rho) : Option Rho → EO D
  | some r0 => keb2 r (m r0)
  | none => .bad
@[simp] theorem keb1_some (m : EM D) (r0 : Rho) : keb1 m r (some r0) = keb2 r (m r0) := rfl
@[simp] theorem x_ebor (m : EM D) : e_bor fl m r = keb1 m r (frAll fl r) := by
  unfold e_bor keb1 keb2
  cases frAll fl r with
  | none => rfl
  | some r0 => first | rfl | (dsimp only; cases m r0 <;> rfl)
def kfrz (i : Nat) : Option Slot → Rho → EO D
  | some (.own ds), r => .ok (.lst ds) (r.set i (.fz (.lst ds)))
  | some (.fz d), r => .ok d r
  | _, _ => .bad
@[simp] theorem x_frz (i : Nat) : e_frz i r = kfrz i r[i]? r := by unfold e_frz kfrz; split <;> simp_all
@[simp] theorem kfrz_own (i : Nat) (ds : List D) : kfrz i (some (.own ds)) r = .ok (.lst ds) (r.set i (.fz (.lst ds))) := rfl
@[simp] theorem kfrz_fz (i : Nat) (d : D) : kfrz i (some (.fz d)) r = .ok d r := rfl
end
end Ml
set_option Elab.async false
set_option linter.all false
set_option maxRecDepth 100000
set_option maxHeartbeats 4000000
/-! Hx: the laws' hand, as a state with a next one; outcomes by what holds of them. -/
namespace Ml
open L2 PySem
structure HS where
  a : Int
  b : Int
  c : Int
  s : Int
def hs (x : HS) : Slot := .own [.int x.a, .int x.b, .int x.c, .int x.s]
def hx1 (x : HS) : Int := (x.s * 48271 + (x.c + 1) * 69621 + 12289) % 2147483647
def hx2 (x : HS) : Int := (hx1 x * hx1 x + (x.c + 1) * 3571 + 40692) % 2147483399
def hx3 (x : HS) : Int := (hx2 x * hx2 x + hx2 x / 97) % 2147483629
@[irreducible] def HS.val (x : HS) (m : Int) : Int := if x.b = 1 ∧ 0 < x.a then x.a % m else hx3 x / 11 % m
@[irreducible] def HS.next (x : HS) (m : Int) : HS := if x.b = 1 ∧ 0 < x.a then ⟨x.a / m, x.b, x.c, x.s⟩ else ⟨x.a, x.b, x.c + 1, x.s⟩
theorem HS.val_nonneg (x : HS) {m : Int} (h : 0 < m) : 0 ≤ x.val m := by
  unfold HS.val; split <;> exact Int.emod_nonneg _ (by omega)
theorem HS.val_lt (x : HS) {m : Int} (h : 0 < m) : x.val m < m := by
  unfold HS.val; split <;> exact Int.emod_lt_of_pos _ h
theorem hs_inj {x y : HS} : hs x = hs y ↔ x = y := by
  constructor
  · intro h
    obtain ⟨a, b, c, d⟩ := x
    obtain ⟨a', b', c', d'⟩ := y
    simp only [hs, Slot.own.injEq, List.cons.injEq, D.int.injEq, and_true] at h
    obtain ⟨rfl, rfl, rfl, rfl⟩ := h
    rfl
  · rintro rfl; rfl
def B_take : SM :=
    (s_seq (s_if (t_and (t_bol (o2 o_eq (p_d (o2 o_ix (p_ow 0) (p_d (e_c (.int 1))))) (p_d (e_c (.int 1))))) (t_bol (o2 o_gt (p_d (o2 o_ix (p_ow 0) (p_d (e_c (.int 0))))) (p_d (e_c (.int 0)))))) (s_seq (s_set 3 (o2 o_mod (p_d (os f_int (a_cons (p_d (o2 o_ix (p_ow 0) (p_d (e_c (.int 0))))) a_nil))) (p_d (e_var 1))))
    (s_seq (s_put 0 (e_c (.int 0)) (o2 o_fdiv (p_d (o2 o_ix (p_ow 0) (p_d (e_c (.int 0))))) (p_d (e_var 1))))
    (s_ret (e_var 3)))) s_nil)
    (s_seq (s_put 0 (e_c (.int 2)) (o2 o_add (p_d (o2 o_ix (p_ow 0) (p_d (e_c (.int 2))))) (p_d (e_c (.int 1)))))
    (s_seq (s_set 2 (o2 o_mod (p_d (os f_int (a_cons (p_d (o2 o_add (p_d (o2 o_add (p_d (o2 o_mul (p_d (o2 o_ix (p_ow 0) (p_d (e_c (.int 3))))) (p_d (e_c (.int 48271))))) (p_d (o2 o_mul (p_d (o2 o_ix (p_ow 0) (p_d (e_c (.int 2))))) (p_d (e_c (.int 69621))))))) (p_d (e_c (.int 12289))))) a_nil))) (p_d (e_c (.int 2147483647)))))
    (s_seq (s_set 2 (o2 o_mod (p_d (os f_int (a_cons (p_d (o2 o_add (p_d (o2 o_add (p_d (o2 o_mul (p_d (e_var 2)) (p_d (e_var 2)))) (p_d (o2 o_mul (p_d (o2 o_ix (p_ow 0) (p_d (e_c (.int 2))))) (p_d (e_c (.int 3571))))))) (p_d (e_c (.int 40692))))) a_nil))) (p_d (e_c (.int 2147483399)))))
    (s_seq (s_set 2 (o2 o_mod (p_d (os f_int (a_cons (p_d (o2 o_add (p_d (o2 o_mul (p_d (e_var 2)) (p_d (e_var 2)))) (p_d (o2 o_fdiv (p_d (e_var 2)) (p_d (e_c (.int 97))))))) a_nil))) (p_d (e_c (.int 2147483629)))))
    (s_ret (o2 o_mod (p_d (os f_int (a_cons (p_d (o2 o_fdiv (p_d (e_var 2)) (p_d (e_c (.int 11))))) a_nil))) (p_d (e_var 1)))))))))
theorem hx_take (x : HS) (m : Int) (h0 : 0 < m) (h1 : m < 1073741824) : defM [0] 2 2 B_take [hs x, .fz (.int m)] = .ret (.fz (.int (x.val m))) [hs (x.next m), .un] := by
  obtain ⟨a, b, c, s⟩ := x
  unfold hs HS.val HS.next
  by_cases hb : b = 1 ∧ 0 < a
  · obtain ⟨rfl, ha⟩ := hb
    refine (defM_run (io := [0]) (np := 2) (nl := 2) (body := B_take) rfl rfl).trans ?_
    simp -implicitDefEqProofs [B_take, isOwn, o_icmp, o_ix, seqOf, L2.atI, L2.ixN, o_eq, o_mod, o_fdiv, f_int, CDiv, h0, h1, ha]
  · rw [if_neg hb, if_neg hb]
    unfold hx3 hx2 hx1
    dsimp only
    generalize hx1 : (s * 48271 + (c + 1) * 69621 + 12289) % 2147483647 = x1
    generalize hx2 : (x1 * x1 + (c + 1) * 3571 + 40692) % 2147483399 = x2
    generalize hx3 : (x2 * x2 + x2 / 97) % 2147483629 = x3
    refine (defM_run (io := [0]) (np := 2) (nl := 2) (body := B_take) rfl rfl).trans ?_
    have l1 : 0 ≤ x1 ∧ x1 < 2147483647 := by subst hx1; exact ⟨Int.emod_nonneg _ (by omega), Int.emod_lt_of_pos _ (by omega)⟩
    have l2 : 0 ≤ x2 ∧ x2 < 2147483399 := by subst hx2; exact ⟨Int.emod_nonneg _ (by omega), Int.emod_lt_of_pos _ (by omega)⟩
    have m1 : ∀ z : Int, CMul z 48271 := fun z => .inr (by decide)
    have m2 : ∀ z : Int, CMul z 69621 := fun z => .inr (by decide)
    have m3 : ∀ z : Int, CMul z 3571 := fun z => .inr (by decide)
    have m4 : CMul x1 x1 := .inl (by omega)
    have m5 : CMul x2 x2 := .inl (by omega)
    by_cases h1b : b = 1
    · have ha : ¬ 0 < a := fun h => hb ⟨h1b, h⟩
      subst h1b
      simp -implicitDefEqProofs [B_take, isOwn, o_icmp, o_ix, seqOf, L2.atI, L2.ixN, o_eq, o_mod, o_fdiv, o_mul, o_add, f_int, CDiv, h0, h1, ha, m1, m2, m3, m4, m5, hx1, hx2, hx3]
    · simp -implicitDefEqProofs [B_take, isOwn, o_icmp, o_ix, seqOf, L2.atI, L2.ixN, o_eq, o_mod, o_fdiv, o_mul, o_add, f_int, CDiv, h0, h1, h1b, m1, m2, m3, m4, m5, hx1, hx2, hx3]
section
variable {α β : Type} {fl : Nat → Nat} {r : Rho} {m n : EM D} {ma mb mc : EM AD} {mas : EM (List AD)} {a b : SM} {tm tn : EM Bool} {ml : EM (List D)} {mv : EM Slot} {M : Rho → FO}
@[simp] theorem lit_SZ {n : Nat} (h : n ≤ 100) : n ≤ SZ := Nat.le_trans h (by decide)
@[simp] theorem own_fz (d : D) : isOwn (.fz d) = false := rfl
@[simp] theorem own_un : isOwn .un = false := rfl
@[simp] theorem own_own (ds : List D) : isOwn (.own ds) = true := rfl
@[simp] theorem own_obj (c : Nat) (ds : List D) : isOwn (.obj c ds) = true := rfl
@[simp] theorem own_hs (x : HS) : isOwn (hs x) = true := rfl
@[simp] theorem kow_hs (i : Nat) (x : HS) : kow i (some (hs x)) r = .ok (.ow i) r := rfl
@[simp] theorem ksl2_hs (x : HS) (ss : Rho) : ksl2 (some (hs x)) (some ss) = some (hs x :: ss) := rfl
@[simp] theorem put_hs (i : Nat) (as : List AD) (x : HS) (os : Rho) : put r (.ow i :: as) (hs x :: os) = put (r.set i (hs x)) as os := rfl
theorem ksi_ite (k : Bool) : ksi a b k r = if k = true then a r else b r := rfl
theorem kta_ite (k : Bool) : kta tn k r = if k = true then tn r else .ok false r := rfl
theorem kto_ite (k : Bool) : kto tn k r = if k = true then .ok true r else tn r := rfl
theorem kif_ite (k : Bool) : kif m n k r = if k = true then m r else n r := rfl
theorem bind_ite {c : Prop} [Decidable c] (x y : EO α) (f : α → Rho → EO β) : EO.bind (if c then x else y) f = if c then x.bind f else y.bind f := by split <;> rfl
theorem seq_ite {c : Prop} [Decidable c] (x y : EO α) (f : α → Rho → SO) : EO.seq (if c then x else y) f = if c then x.seq f else y.seq f := by split <;> rfl
theorem thn_ite {c : Prop} [Decidable c] (x y : SO) : thn b (if c then x else y) = if c then thn b x else thn b y := by split <;> rfl
theorem outD_ite {c : Prop} [Decidable c] (ss : Rho) (x y : SO) : outD ss (if c then x else y) = if c then outD ss x else outD ss y := by split <;> rfl
/-- it comes to a value, of which Q holds -/
def FP (x : FO) (Q : Slot → Rho → Prop) : Prop := ∃ s o, x = .ret s o ∧ Q s o
theorem FP_ret (s : Slot) (o : Rho) (Q : Slot → Rho → Prop) : FP (.ret s o) Q ↔ Q s o := ⟨fun ⟨_, _, e, h⟩ => by cases e; exact h, fun h => ⟨_, _, rfl, h⟩⟩
theorem FP_ite {c : Prop} [Decidable c] (x y : FO) (Q : Slot → Rho → Prop) : FP (if c then x else y) Q ↔ (c → FP x Q) ∧ (¬c → FP y Q) := by split <;> simp_all
end
end Ml
set_option Elab.async false
set_option linter.all false
set_option maxRecDepth 100000
set_option maxHeartbeats 4000000
/-! Sx5: .. chains, places, methods, made objects, raise and except. -/
namespace Ml
open L2 PySem
section
variable {α β : Type} {fl : Nat → Nat} {r : Rho} {m n : EM D} {ma mb mc : EM AD} {mas : EM (List AD)} {a b : SM} {tm tn : EM Bool} {ml : EM (List D)} {mv : EM Slot} {M : Rho → FO}
def kc3 (g : D → D → Option D) (y : AD) : AD → Rho → EO D := fun z r => k2m g (res r y) (res r z) r
@[simp] theorem kc3_eq (g : D → D → Option D) (y z : AD) : kc3 g y z r = k2m g (res r y) (res r z) r := rfl
def kc2 (g : D → D → Option D) (mc : EM AD) (y : AD) : Option D → Rho → EO D
  | some (.bl true), r => (mc r).bind (kc3 g y)
  | some (.bl false), r => .ok (.bl false) r
  | _, _ => .bad
@[simp] theorem kc2_t (g : D → D → Option D) (y : AD) : kc2 g mc y (some (.bl true)) r = (mc r).bind (kc3 g y) := rfl
@[simp] theorem kc2_f (g : D → D → Option D) (y : AD) : kc2 g mc y (some (.bl false)) r = .ok (.bl false) r := rfl
theorem kc2_ite (g : D → D → Option D) (y : AD) (b : Bool) : kc2 g mc y (some (.bl b)) r = if b = true then (mc r).bind (kc3 g y) else .ok (.bl false) r := by cases b <;> rfl
def kc1m (f g : D → D → Option D) (mc : EM AD) (y : AD) : Option D → Option D → Rho → EO D
  | some dx, some dy, r => kc2 g mc y (f dx dy) r
  | _, _, _ => .bad
@[simp] theorem kc1m_eq (f g : D → D → Option D) (y : AD) (dx dy : D) : kc1m f g mc y (some dx) (some dy) r = kc2 g mc y (f dx dy) r := rfl
def kc1 (f g : D → D → Option D) (mc : EM AD) (x : AD) : AD → Rho → EO D := fun y r => kc1m f g mc y (res r x) (res r y) r
@[simp] theorem kc1_eq (f g : D → D → Option D) (x y : AD) : kc1 f g mc x y r = kc1m f g mc y (res r x) (res r y) r := rfl
def kc0 (f g : D → D → Option D) (mb mc : EM AD) : AD → Rho → EO D := fun x r => (mb r).bind (kc1 f g mc x)
@[simp] theorem kc0_eq (f g : D → D → Option D) (x : AD) : kc0 f g mb mc x r = (mb r).bind (kc1 f g mc x) := rfl
@[simp] theorem x_chain (f g : D → D → Option D) : e_chain f g ma mb mc r = (ma r).bind (kc0 f g mb mc) := by
  unfold e_chain kc0 kc1 kc1m
  congr; funext x r; congr; funext y r
  cases res r x with
  | none => rfl
  | some dx =>
    cases res r y with
    | none => rfl
    | some dy =>
      dsimp only
      cases hf : f dx dy with
      | none => rfl
      | some z =>
        cases z with
        | bl b =>
          cases b with
          | true =>
            dsimp only [kc2]
            congr; funext z r
            unfold kc3
            cases res r y <;> cases res r z <;> rfl
          | false => rfl
        | _ => rfl
-- places, as they are in slots that are told
theorem pm_run {m : PlM} {f : List O → List D → Option (D × List O)} {args : EM (List AD)} {i : Nat} {p : List Nat} {s : Slot} {t : O} {ts ts' : List O} {as : List AD} {r2 : Rho} {ds : List D} {z : D}
    (h1 : m r = some (i, p)) (h2 : r[i]? = some s) (h3 : tree s = some t) (h4 : O.get t p = some (.lst ts)) (h5 : args (r.set i .un) = .ok as r2) (h6 : dats as = some ds) (h7 : f ts ds = some (z, ts')) :
    e_pm m f args r = .ok z (r2.set i (norm (O.put t p (.lst ts')))) := by
  unfold e_pm; simp only [h1, h2, h3, h4, h5, h6, h7]
theorem pmV_run {m : PlM} {mv : EM Slot} {i : Nat} {p : List Nat} {s s2 : Slot} {t o : O} {ts : List O} {r2 : Rho}
    (h1 : m r = some (i, p)) (h2 : r[i]? = some s) (h3 : tree s = some t) (h4 : O.get t p = some (.lst ts)) (h5 : mv (r.set i .un) = .ok s2 r2) (h6 : toO s2 = some o) (h7 : ts.length < SZ) :
    e_pmV m mv r = .ok .non (r2.set i (norm (O.put t p (.lst (ts ++ [o]))))) := by
  unfold e_pmV; simp only [h1, h2, h3, h4, h5, h6, h7, if_true]
theorem pop_run {m : PlM} {i : Nat} {p : List Nat} {s : Slot} {t o : O} {ts : List O}
    (h1 : m r = some (i, p)) (h2 : r[i]? = some s) (h3 : tree s = some t) (h4 : O.get t p = some (.lst ts)) (h5 : ts.getLast? = some o) :
    v_pop m r = .ok (norm o) (r.set i (norm (O.put t p (.lst ts.dropLast)))) := by
  unfold v_pop; simp only [h1, h2, h3, h4, h5]
theorem at_run {m : PlM} {i : Nat} {p : List Nat} {s : Slot} {t o : O}
    (h1 : m r = some (i, p)) (h2 : r[i]? = some s) (h3 : tree s = some t) (h4 : O.get t p = some o) : v_at m r = .ok (norm o) (r.set i .un) := by
  unfold v_at; simp only [h1, h2, h3, h4]
def kmt (M : Rho → FO) (i : Nat) : List AD → Rho → EO Slot := fun as r => call M (.ow i :: as) r
@[simp] theorem kmt_eq (i : Nat) (as : List AD) : kmt M i as r = call M (.ow i :: as) r := rfl
def kme (c i : Nat) (M : Rho → FO) (mas : EM (List AD)) : Option O → Rho → EO Slot
  | some (.obj c' _), r => if c' = c then (mas r).bind (kmt M i) else .bad
  | _, _ => .bad
@[simp] theorem kme_eq (c c' i : Nat) (ts : List O) : kme c i M mas (some (.obj c' ts)) r = if c' = c then (mas r).bind (kmt M i) else .bad := rfl
def ktree : Option Slot → Option O
  | some s => tree s
  | none => none
@[simp] theorem ktree_tob (c : Nat) (ts : List O) : ktree (some (.tr (.obj c ts))) = some (.obj c ts) := rfl
@[simp] theorem ktree_obj (c : Nat) (ds : List D) : ktree (some (.obj c ds)) = some (.obj c (ds.map .fz)) := rfl
@[simp] theorem x_meth (c i : Nat) : v_meth c i M mas r = kme c i M mas (ktree r[i]?) r := by
  unfold v_meth kme ktree
  cases r[i]? with
  | none => rfl
  | some s =>
    dsimp only
    cases tree s with
    | none => rfl
    | some t => cases t <;> rfl
def kmd2 (M : Rho → FO) (d : D) : List AD → Rho → EO Slot := fun as r => call M (.d d :: as) r
@[simp] theorem kmd2_eq (d : D) (as : List AD) : kmd2 M d as r = call M (.d d :: as) r := rfl
def kmd (c : Nat) (M : Rho → FO) (mas : EM (List AD)) : D → Rho → EO Slot
  | .ins c' ds, r => if c' = c then (mas r).bind (kmd2 M (.ins c' ds)) else .bad
  | _, _ => .bad
@[simp] theorem kmd_eq (c c' : Nat) (ds : List D) : kmd c M mas (.ins c' ds) r = if c' = c then (mas r).bind (kmd2 M (.ins c' ds)) else .bad := rfl
@[simp] theorem x_methD (c : Nat) : v_methD c M m mas r = (m r).bind (kmd c M mas) := by
  unfold v_methD
  congr; funext d r
  cases d <;> rfl
def kmk2 (n : Nat) : EO Slot → EO Slot
  | .ok (.fz .non) r2 => (match r2[n]? with
    | some s => .ok s (r2.take n)
    | none => .bad)
  | .exc e fs r2 => .exc e fs (r2.take n)
  | _ => .bad
def kmk3 : Option Slot → Rho → EO Slot
  | some s, r => .ok s r
  | none, _ => .bad
@[simp] theorem kmk3_eq (s : Slot) : kmk3 (some s) r = .ok s r := rfl
@[simp] theorem kmk2_ok (n : Nat) (r2 : Rho) : kmk2 n (.ok (.fz .non) r2) = kmk3 r2[n]? (r2.take n) := by
  simp only [kmk2]; cases r2[n]? <;> rfl
@[simp] theorem kmk2_exc (n e : Nat) (fs : List D) (r2 : Rho) : kmk2 n (.exc e fs r2) = .exc e fs (r2.take n) := rfl
def kmk (c : Nat) (M : Rho → FO) : List AD → Rho → EO Slot := fun as r1 => kmk2 r1.length (call M (.ow r1.length :: as) (r1 ++ [.obj c []]))
@[simp] theorem kmk_eq (c : Nat) (as : List AD) : kmk c M as r = kmk2 r.length (call M (.ow r.length :: as) (r ++ [.obj c []])) := rfl
@[simp] theorem x_make (c : Nat) : v_make c M mas r = (mas r).bind (kmk c M) := by
  unfold v_make
  congr
-- raise, except
def kex (c : Nat) (f : List D → Option (List D)) : Option (List D) → Rho → SO
  | some ds, r => (match f ds with
    | some gs => .exc c gs r
    | none => .bad)
  | none, _ => .bad
def kex2 (c : Nat) : Option (List D) → Rho → SO
  | some gs, r => .exc c gs r
  | none, _ => .bad
@[simp] theorem kex2_eq (c : Nat) (gs : List D) : kex2 c (some gs) r = .exc c gs r := rfl
@[simp] theorem kex_eq (c : Nat) (f : List D → Option (List D)) (ds : List D) : kex c f (some ds) r = kex2 c (f ds) r := by
  simp only [kex]; cases f ds <;> rfl
def kexa (c : Nat) (f : List D → Option (List D)) : List AD → Rho → SO := fun as r => kex c f (dats as) r
@[simp] theorem kexa_eq (c : Nat) (f : List D → Option (List D)) (as : List AD) : kexa c f as r = kex c f (dats as) r := rfl
@[simp] theorem x_sexc (c : Nat) (f : List D → Option (List D)) : s_exc c f mas r = (mas r).seq (kexa c f) := by
  unfold s_exc kexa kex
  congr; funext as r; cases dats as <;> rfl
def kta1 (i : Nat) (su : SM) (c : Nat) (fs : List D) (r1 : Rho) : Option Bool → SO
  | some true => if noX r1 = true then unX i (su (r1.set i (.exv c fs))) else .bad
  | some false => .exc c fs r1
  | none => .bad
@[simp] theorem kta1_t (i : Nat) (su : SM) (c : Nat) (fs : List D) (r1 : Rho) : kta1 i su c fs r1 (some true) = if noX r1 = true then unX i (su (r1.set i (.exv c fs))) else .bad := rfl
@[simp] theorem kta1_f (i : Nat) (su : SM) (c : Nat) (fs : List D) (r1 : Rho) : kta1 i su c fs r1 (some false) = .exc c fs r1 := rfl
def kta0 (hit : Nat → Option Bool) (i : Nat) (su : SM) : SO → SO
  | .exc c fs r1 => kta1 i su c fs r1 (hit c)
  | o => o
@[simp] theorem kta0_exc (hit : Nat → Option Bool) (i : Nat) (su : SM) (c : Nat) (fs : List D) (r1 : Rho) : kta0 hit i su (.exc c fs r1) = kta1 i su c fs r1 (hit c) := rfl
@[simp] theorem kta0_nx (hit : Nat → Option Bool) (i : Nat) (su : SM) (r1 : Rho) : kta0 hit i su (.nx r1) = .nx r1 := rfl
@[simp] theorem kta0_rt (hit : Nat → Option Bool) (i : Nat) (su : SM) (s : Slot) (r1 : Rho) : kta0 hit i su (.rt s r1) = .rt s r1 := rfl
@[simp] theorem x_tryAs (hit : Nat → Option Bool) (i : Nat) (su : SM) : s_tryAs hit i a su r = kta0 hit i su (a r) := by
  unfold s_tryAs kta0
  cases a r with
  | exc c fs r1 =>
    dsimp only
    unfold kta1
    cases hit c with
    | none => rfl
    | some b => cases b <;> rfl
  | _ => rfl
@[simp] theorem noX_nil : noX [] = true := rfl
@[simp] theorem noX_fz (d : D) : noX (.fz d :: r) = noX r := rfl
@[simp] theorem noX_un : noX (.un :: r) = noX r := rfl
@[simp] theorem noX_own (ds : List D) : noX (.own ds :: r) = noX r := rfl
@[simp] theorem noX_obj (c : Nat) (ds : List D) : noX (.obj c ds :: r) = noX r := rfl
@[simp] theorem noX_tr (t : O) : noX (.tr t :: r) = noX r := rfl
@[simp] theorem noX_hs (x : HS) : noX (hs x :: r) = noX r := rfl
@[simp] theorem unX_nx (i : Nat) (r1 : Rho) : unX i (.nx r1) = if noX (r1.set i .un) = true then .nx (r1.set i .un) else .bad := rfl
@[simp] theorem unX_rt (i : Nat) (s : Slot) (r1 : Rho) : unX i (.rt s r1) = if noX (r1.set i .un ++ [s]) = true then .rt s (r1.set i .un) else .bad := rfl
def kxf (c j : Nat) : Option Slot → Rho → EO D
  | some (.exv c' fs), r => if c' = c then EO.opt fs[j]? r else .bad
  | _, _ => .bad
@[simp] theorem x_xf (c i j : Nat) : e_xf c i j r = kxf c j r[i]? r := by unfold e_xf kxf; split <;> simp_all
@[simp] theorem kxf_eq (c j c' : Nat) (fs : List D) : kxf c j (some (.exv c' fs)) r = if c' = c then EO.opt fs[j]? r else .bad := rfl
def kxi (ans : Nat → Option Bool) : Option Slot → Rho → EO D
  | some (.exv c _), r => EO.opt ((ans c).map D.bl) r
  | _, _ => .bad
@[simp] theorem x_xis (ans : Nat → Option Bool) (i : Nat) : e_xis ans i r = kxi ans r[i]? r := by unfold e_xis kxi; split <;> simp_all
@[simp] theorem kxi_eq (ans : Nat → Option Bool) (c : Nat) (fs : List D) : kxi ans (some (.exv c fs)) r = EO.opt ((ans c).map D.bl) r := rfl
end
end Ml
set_option Elab.async false
set_option linter.all false
set_option maxRecDepth 100000
set_option maxHeartbeats 4000000
/-! Sx6: comprehensions by a function, trees as data. -/
namespace Ml
open L2 PySem
theorem lc_mapA {X : Type} {i : Nat} {te : EM D} (g f : X → D) (r : Rho) (hi : i < r.length) (hr : keepFz r[i]? = r[i]) : ∀ (l : List X) (acc : List D), acc.length + l.length ≤ SZ → (∀ x ∈ l, te (r.set i (.fz (g x))) = .ok (f x) (r.set i (.fz (g x)))) → lcD [i] (g_name i) t_yes te (l.map g) acc r = .ok (acc ++ l.map f) r
  | [], acc, _, _ => by simp [lcD]
  | x :: l, acc, hl, h => by
    have hl' : acc.length + (l.length + 1) ≤ SZ := by simpa using hl
    have ih := lc_mapA g f r hi hr l (acc ++ [f x]) (by simp; omega) (fun y m => h y (List.mem_cons_of_mem _ m))
    rw [List.map_cons]
    unfold lcD lcT
    simp only [g_name, wipeR, List.set_set, x_yes, bind_ok, if_true, h x List.mem_cons_self]
    rw [if_pos (by omega)]
    simp only [restR, List.set_set]
    rw [hr, List.set_getElem_self, ih]
    simp
theorem lc_map {X : Type} {i : Nat} {te : EM D} (g f : X → D) (r : Rho) (hi : i < r.length) (hr : keepFz r[i]? = r[i]) (l : List X) (hl : l.length ≤ SZ) (h : ∀ x ∈ l, te (r.set i (.fz (g x))) = .ok (f x) (r.set i (.fz (g x)))) : lcD [i] (g_name i) t_yes te (l.map g) [] r = .ok (l.map f) r := by
  have := lc_mapA g f r hi hr l [] (by simpa using hl) h
  simpa using this
theorem datas_map {X : Type} {fl : Nat → Nat} (f : X → O) (g : X → D) : ∀ (l : List X), (∀ x ∈ l, O.data fl (f x) = some (g x)) → O.datas fl (l.map f) = some (l.map g)
  | [], _ => by simp [O.datas]
  | x :: l, h => by
    rw [List.map_cons]
    unfold O.datas
    rw [h x List.mem_cons_self, datas_map f g l (fun y m => h y (List.mem_cons_of_mem _ m))]
    rfl
theorem datas_app {fl : Nat → Nat} : ∀ {a b : List O} {x y : List D}, O.datas fl a = some x → O.datas fl b = some y → O.datas fl (a ++ b) = some (x ++ y)
  | [], b, x, y, h, k => by simp [O.datas] at h; subst h; simpa using k
  | t :: a, b, x, y, h, k => by
    unfold O.datas at h
    cases h1 : O.data fl t with
    | none => rw [h1] at h; cases h
    | some d =>
      cases h2 : O.datas fl a with
      | none => rw [h1, h2] at h; cases h
      | some ds =>
        rw [h1, h2] at h
        cases h
        rw [List.cons_append]
        unfold O.datas
        rw [h1, datas_app h2 k]
        rfl
theorem data_lst {fl : Nat → Nat} {ts : List O} {ds : List D} (h : O.datas fl ts = some ds) : O.data fl (.lst ts) = some (.lst ds) := by unfold O.data; rw [h]; rfl
theorem lsInts_map (q : List Int) : lsInts (.lst (q.map D.int)) = some q := by
  unfold lsInts
  dsimp only
  induction q with
  | nil => rfl
  | cons a q ih => rw [List.map_cons]; unfold intsOf; rw [ih]; rfl
end Ml
set_option Elab.async false
set_option linter.all false
set_option maxRecDepth 100000
set_option maxHeartbeats 4000000
/-! Sx7: .. targets. -/
namespace Ml
open L2 PySem
section
variable {r : Rho} {m n : EM D}
def kas2 : Option Rho → SO
  | some r => .nx r
  | none => .bad
@[simp] theorem kas2_some : kas2 (some r) = .nx r := rfl
def kas (gb : D → Rho → Option Rho) : D → Rho → SO := fun d r => kas2 (gb d r)
@[simp] theorem kas_eq (gb : D → Rho → Option Rho) (d : D) : kas gb d r = kas2 (gb d r) := rfl
@[simp] theorem x_asg (gb : D → Rho → Option Rho) : s_asg gb m r = (m r).seq (kas gb) := by
  unfold s_asg kas kas2
  congr
@[simp] theorem x_gname (i : Nat) (d : D) : g_name i d r = some (r.set i (.fz d)) := rfl
def kgs (gs : List D → Rho → Option Rho) (ds : List D) : Option Rho → Option Rho
  | some r1 => gs ds r1
  | none => none
@[simp] theorem kgs_some (gs : List D → Rho → Option Rho) (ds : List D) : kgs gs ds (some r) = gs ds r := rfl
@[simp] theorem x_gsnil : gs_nil [] r = some r := rfl
@[simp] theorem x_gscons (g : D → Rho → Option Rho) (gs : List D → Rho → Option Rho) (d : D) (ds : List D) : gs_cons g gs (d :: ds) r = kgs gs ds (g d r) := by
  unfold gs_cons kgs; first | rfl | (dsimp only; cases g d r <;> rfl)
@[simp] theorem x_gtup (k : Nat) (gs : List D → Rho → Option Rho) (ds : List D) : g_tup k gs (.tup ds) r = if ds.length = k then gs ds r else none := rfl
@[simp] theorem x_vsnil : vs_nil r = .ok [] r := rfl
def kvs2 (s : Slot) : List Slot → Rho → EO (List Slot) := fun ss r => .ok (s :: ss) r
@[simp] theorem kvs2_eq (s : Slot) (ss : List Slot) : kvs2 s ss r = .ok (s :: ss) r := rfl
def kvs1 (ms : EM (List Slot)) : Slot → Rho → EO (List Slot) := fun s r => (ms r).bind (kvs2 s)
@[simp] theorem kvs1_eq (ms : EM (List Slot)) (s : Slot) : kvs1 ms s r = (ms r).bind (kvs2 s) := rfl
@[simp] theorem x_vscons (mv : EM Slot) (ms : EM (List Slot)) : vs_cons mv ms r = (mv r).bind (kvs1 ms) := rfl
def ktos : Option O → Option (List O) → Option (List O)
  | some t, some ts => some (t :: ts)
  | _, _ => none
@[simp] theorem ktos_some (t : O) (ts : List O) : ktos (some t) (some ts) = some (t :: ts) := rfl
@[simp] theorem toOs_nil : toOs [] = some [] := rfl
@[simp] theorem toOs_cons (s : Slot) (ss : List Slot) : toOs (s :: ss) = ktos (toO s) (toOs ss) := by
  conv => lhs; unfold toOs
  cases toO s <;> cases toOs ss <;> rfl
@[simp] theorem toO_fz (d : D) : toO (.fz d) = some (.fz d) := rfl
@[simp] theorem toO_own (ds : List D) : toO (.own ds) = some (.lst (ds.map .fz)) := rfl
@[simp] theorem toO_obj (c : Nat) (ds : List D) : toO (.obj c ds) = some (.obj c (ds.map .fz)) := rfl
@[simp] theorem toO_lst (ts : List O) : toO (.tr (.lst ts)) = some (.lst ts) := rfl
@[simp] theorem toO_tup (ts : List O) : toO (.tr (.tup ts)) = some (.tup ts) := rfl
@[simp] theorem toO_tob (c : Nat) (ts : List O) : toO (.tr (.obj c ts)) = some (.obj c ts) := rfl
def kvt2 : Option (List O) → Rho → EO Slot
  | some os, r => if os.length ≤ SZ then .ok (.tr (.tup os)) r else .bad
  | none, _ => .bad
@[simp] theorem kvt2_some (os : List O) : kvt2 (some os) r = if os.length ≤ SZ then .ok (.tr (.tup os)) r else .bad := rfl
def kvt : List Slot → Rho → EO Slot := fun ss r => kvt2 (toOs ss) r
@[simp] theorem kvt_eq (ss : List Slot) : kvt ss r = kvt2 (toOs ss) r := rfl
@[simp] theorem x_vtup (ms : EM (List Slot)) : v_tup ms r = (ms r).bind kvt := by
  unfold v_tup
  congr; funext ss r
  unfold kvt
  cases toOs ss <;> rfl
def kvl2 : Option (List O) → Rho → EO Slot
  | some os, r => if os.length ≤ SZ then .ok (norm (.lst os)) r else .bad
  | none, _ => .bad
@[simp] theorem kvl2_some (os : List O) : kvl2 (some os) r = if os.length ≤ SZ then .ok (norm (.lst os)) r else .bad := rfl
def kvl : List Slot → Rho → EO Slot := fun ss r => kvl2 (toOs ss) r
@[simp] theorem kvl_eq (ss : List Slot) : kvl ss r = kvl2 (toOs ss) r := rfl
@[simp] theorem x_vlst (ms : EM (List Slot)) : v_lst ms r = (ms r).bind kvl := by
  unfold v_lst
  congr; funext ss r
  unfold kvl
  cases toOs ss <;> rfl
def kvk (i : Nat) : Option Slot → Rho → EO Slot
  | some (.fz d), r => .ok (.fz d) r
  | some s, r => if isOwn s = true then .ok s (r.set i .un) else .bad
  | none, _ => .bad
@[simp] theorem x_vtake (i : Nat) : v_take i r = kvk i r[i]? r := by
  unfold v_take kvk; split <;> simp_all
@[simp] theorem kvk_fz (i : Nat) (d : D) : kvk i (some (.fz d)) r = .ok (.fz d) r := rfl
@[simp] theorem kvk_own (i : Nat) (ds : List D) : kvk i (some (.own ds)) r = .ok (.own ds) (r.set i .un) := rfl
@[simp] theorem kvk_obj (i c : Nat) (ds : List D) : kvk i (some (.obj c ds)) r = .ok (.obj c ds) (r.set i .un) := rfl
@[simp] theorem kvk_tup (i : Nat) (ts : List O) : kvk i (some (.tr (.tup ts))) r = .ok (.tr (.tup ts)) (r.set i .un) := rfl
@[simp] theorem kvk_lst (i : Nat) (ts : List O) : kvk i (some (.tr (.lst ts))) r = .ok (.tr (.lst ts)) (r.set i .un) := rfl
@[simp] theorem kvk_tob (i c : Nat) (ts : List O) : kvk i (some (.tr (.obj c ts))) r = .ok (.tr (.obj c ts)) (r.set i .un) := rfl
def kfv2 : Option D → Rho → EO D
  | some d, r => .ok d r
  | none, _ => .bad
@[simp] theorem kfv2_some (d : D) : kfv2 (some d) r = .ok d r := rfl
def kfv (fl : Nat → Nat) : Slot → Rho → EO D
  | .fz d, r => .ok d r
  | s, r => (match tree s with
    | some t => kfv2 (O.data fl t) r
    | none => .bad)
@[simp] theorem kfv_fz (fl : Nat → Nat) (d : D) : kfv fl (.fz d) r = .ok d r := rfl
@[simp] theorem kfv_own (fl : Nat → Nat) (ds : List D) : kfv fl (.own ds) r = .ok (.lst ds) r := by
  show kfv2 (O.data fl (.lst (ds.map .fz))) r = _
  unfold O.data; rw [datas_fz]; rfl
@[simp] theorem kfv_tup (fl : Nat → Nat) (ts : List O) : kfv fl (.tr (.tup ts)) r = kfv2 (O.data fl (.tup ts)) r := rfl
@[simp] theorem kfv_lst (fl : Nat → Nat) (ts : List O) : kfv fl (.tr (.lst ts)) r = kfv2 (O.data fl (.lst ts)) r := rfl
@[simp] theorem kfv_tob (fl : Nat → Nat) (c : Nat) (ts : List O) : kfv fl (.tr (.obj c ts)) r = kfv2 (O.data fl (.obj c ts)) r := rfl
@[simp] theorem x_frzV (fl : Nat → Nat) (mv : EM Slot) : e_frzV fl mv r = (mv r).bind (kfv fl) := by
  unfold e_frzV
  congr; funext s r
  cases s with
  | fz d => rfl
  | _ =>
    dsimp only [kfv]
    generalize tree _ = q
    cases q with
    | none => rfl
    | some t => dsimp only; unfold kfv2; cases O.data fl t <;> rfl
def kcv3 (n : Nat) : EO Slot → EO Slot
  | .ok s2 r3 => .ok s2 (r3.take n)
  | .exc e fs r3 => .exc e fs (r3.take n)
  | .bad => .bad
@[simp] theorem kcv3_ok (n : Nat) (s : Slot) : kcv3 n (.ok s r) = .ok s (r.take n) := rfl
@[simp] theorem kcv3_exc (n e : Nat) (fs : List D) : kcv3 n (.exc e fs r) = .exc e fs (r.take n) := rfl
def kcv2 (M : Rho → FO) (s : Slot) : List AD → Rho → EO Slot := fun as r2 => kcv3 r2.length (call M (.ow r2.length :: as) (r2 ++ [s]))
@[simp] theorem kcv2_eq (M : Rho → FO) (s : Slot) (as : List AD) : kcv2 M s as r = kcv3 r.length (call M (.ow r.length :: as) (r ++ [s])) := rfl
def kcv1 (M : Rho → FO) (mas : EM (List AD)) : Slot → Rho → EO Slot := fun s r1 => (mas r1).bind (kcv2 M s)
@[simp] theorem kcv1_eq (M : Rho → FO) (mas : EM (List AD)) (s : Slot) : kcv1 M mas s r = (mas r).bind (kcv2 M s) := rfl
@[simp] theorem x_callV (M : Rho → FO) (mv : EM Slot) (mas : EM (List AD)) : v_callV M mv mas r = (mv r).bind (kcv1 M mas) := by
  rfl
end
end Ml
set_option linter.all false
set_option maxRecDepth 100000
set_option maxHeartbeats 4000000
namespace Gk
open PySem L2 Ml
theorem take_ok (a b c s m : Int) (h0 : 0 < m) (h1 : m < 1073741824) : ∃ v a' c', 0 ≤ v ∧ v < m ∧ M_law_take [.own [.int a, .int b, .int c, .int s], .fz (.int m)] = .ret (.fz (.int v)) [.own [.int a', .int b, .int c', .int s], .un] := by
  by_cases hb : b = 1 ∧ 0 < a
  · refine ⟨a % m, a / m, c, Int.emod_nonneg _ (by omega), Int.emod_lt_of_pos _ h0, ?_⟩
    obtain ⟨rfl, ha⟩ := hb
    refine (defM_run (io := [0]) (np := 2) (nl := 2) (body := B_law_take) rfl rfl).trans ?_
    simp [B_law_take, isOwn, o_icmp, o_ix, seqOf, L2.atI, L2.ixN, o_eq, o_mod, o_fdiv, f_int, CDiv, h0, h1, ha]
  · generalize hx1 : (s * 48271 + (c + 1) * 69621 + 12289) % 2147483647 = x1
    generalize hx2 : (x1 * x1 + (c + 1) * 3571 + 40692) % 2147483399 = x2
    generalize hx3 : (x2 * x2 + x2 / 97) % 2147483629 = x3
    refine ⟨x3 / 11 % m, a, c + 1, Int.emod_nonneg _ (by omega), Int.emod_lt_of_pos _ h0, ?_⟩
    refine (defM_run (io := [0]) (np := 2) (nl := 2) (body := B_law_take) rfl rfl).trans ?_
    have l1 : 0 ≤ x1 ∧ x1 < 2147483647 := by subst hx1; exact ⟨Int.emod_nonneg _ (by omega), Int.emod_lt_of_pos _ (by omega)⟩
    have l2 : 0 ≤ x2 ∧ x2 < 2147483399 := by subst hx2; exact ⟨Int.emod_nonneg _ (by omega), Int.emod_lt_of_pos _ (by omega)⟩
    have m1 : ∀ z : Int, CMul z 48271 := fun z => .inr (by decide)
    have m2 : ∀ z : Int, CMul z 69621 := fun z => .inr (by decide)
    have m3 : ∀ z : Int, CMul z 3571 := fun z => .inr (by decide)
    have m4 : CMul x1 x1 := .inl (by omega)
    have m5 : CMul x2 x2 := .inl (by omega)
    by_cases h1b : b = 1
    · have ha : ¬ 0 < a := fun h => hb ⟨h1b, h⟩
      subst h1b
      simp [B_law_take, isOwn, o_icmp, o_ix, seqOf, L2.atI, L2.ixN, o_eq, o_mod, o_fdiv, o_mul, o_add, f_int, CDiv, h0, h1, ha, m1, m2, m3, m4, m5, hx1, hx2, hx3]
    · simp [B_law_take, isOwn, o_icmp, o_ix, seqOf, L2.atI, L2.ixN, o_eq, o_mod, o_fdiv, o_mul, o_add, f_int, CDiv, h0, h1, h1b, m1, m2, m3, m4, m5, hx1, hx2, hx3]
end Gk
set_option linter.all false
set_option maxRecDepth 100000
set_option maxHeartbeats 4000000
namespace Gk
open PySem L2 Ml
/-- a hand -/
def HO (s : Slot) : Prop := ∃ a b c d : Int, s = .own [.int a, .int b, .int c, .int d]
theorem ints_of {P : Int → Prop} : ∀ {ys : List D}, (∀ y ∈ ys, ∃ v, y = .int v ∧ P v) → ∃ vs : List Int, ys = vs.map .int ∧ ∀ v ∈ vs, P v
  | [], _ => ⟨[], rfl, fun v m => by cases m⟩
  | y :: ys, h => by
    obtain ⟨v, rfl, hv⟩ := h y List.mem_cons_self
    obtain ⟨vs, rfl, hs⟩ := ints_of fun y m => h y (List.mem_cons_of_mem _ m)
    exact ⟨v :: vs, rfl, fun x m => by rcases List.mem_cons.mp m with rfl | m; exact hv; exact hs x m⟩
theorem rng_len {n : Int} : (rngD 0 n).length = n.toNat := by simp [rngD]
theorem some_ok (a b c s m n : Int) (h0 : 0 < m) (h1 : m < 1073741824) (n0 : 0 ≤ n) (n1 : n ≤ 1000) :
    ∃ (vs : List Int) (h' : Slot), HO h' ∧ vs.length = n.toNat ∧ (∀ v ∈ vs, 0 ≤ v ∧ v < m) ∧ M_law_some [.own [.int a, .int b, .int c, .int s], .fz (.int n), .fz (.int m)] = .ret (.fz (.lst (vs.map D.int))) [h', .un, .un] := by
  have key := lcD_inv (vs := [3]) (gb := g_name 3) (te := e_call M_law_take (a_cons (p_ow 0) (a_cons (p_d (e_var 2)) a_nil)))
    (fun _ r => ∃ a b c s : Int, r = [.own [.int a, .int b, .int c, .int s], .fz (.int n), .fz (.int m), .un]) (fun _ y => ∃ v, y = .int v ∧ 0 ≤ v ∧ v < m)
    (fun d ds r ⟨a, b, c, s, hr⟩ => by
      subst hr
      obtain ⟨v, a', c', v0, v1, e⟩ := take_ok a b c s m h0 h1
      refine ⟨_, .int v, [.own [.int a', .int b, .int c', .int s], .fz (.int n), .fz (.int m), .fz d], rfl, ?_, ⟨v, rfl, v0, v1⟩, a', b, c', s, rfl⟩
      simp [wipeR, e]) (rngD 0 n) [] [.own [.int a, .int b, .int c, .int s], .fz (.int n), .fz (.int m), .un] (by simp [rng_len, SZ]; omega) ⟨a, b, c, s, rfl⟩
  obtain ⟨ys, r', e, hl, hP, a', b', c', s', rfl⟩ := key
  obtain ⟨vs, rfl, hv⟩ := ints_of (P := fun v => 0 ≤ v ∧ v < m) (ys := ys) fun y my => by
    obtain ⟨i, hi, ei⟩ := List.getElem_of_mem my
    have hi' : i < (rngD 0 n).length := by omega
    exact hP i _ y (List.getElem?_eq_getElem hi') (by rw [List.getElem?_eq_getElem hi, ei])
  refine ⟨vs, .own [.int a', .int b', .int c', .int s'], ⟨a', b', c', s', rfl⟩, by rw [← rng_len]; simpa using hl, hv, ?_⟩
  refine (defM_run (io := [0]) (np := 3) (nl := 1) (body := B_law_some) rfl rfl).trans ?_
  have hin : inRng n = true := by simp [inRng]; omega
  simp [B_law_some, hin, isOwn] at e ⊢
  rw [e]
  simp [isOwn]
end Gk
set_option linter.all false
set_option maxRecDepth 100000
set_option maxHeartbeats 4000000
namespace Gk
open PySem L2 Ml
theorem cell_ok (ns : List Int) (k : Nat) : ∃ v : Int, M_law_cell [.fz (.ro false (ns.map D.int)), .fz (.int k)] = .ret (.fz (.int v)) [.un, .un] := by
  by_cases h : k < ns.length
  · refine ⟨if ns[k] < 0 then -ns[k] else ns[k], ?_⟩
    refine (defM_run (io := []) (np := 2) (nl := 0) (body := B_law_cell) rfl rfl).trans ?_
    have hk : (k : Int) < ns.length := by omega
    simp [B_law_cell, isOwn, o_icmp, f_len, seqOf, o_ix, L2.atI, L2.ixN, f_abs, h, hk]
  · refine ⟨0, ?_⟩
    refine (defM_run (io := []) (np := 2) (nl := 0) (body := B_law_cell) rfl rfl).trans ?_
    have hk : ¬ (k : Int) < ns.length := by omega
    simp [B_law_cell, isOwn, o_icmp, f_len, seqOf, h, hk]
theorem hand_ok (ns : List Int) (k : Nat) : ∃ h, HO h ∧ M_law_hand [.fz (.ro false (ns.map D.int)), .fz (.int k)] = .ret h [.un, .un] := by
  obtain ⟨v, e⟩ := cell_ok ns k
  refine ⟨.own [.int v, .int (if 10 ^ 18 ≤ v then 1 else 0), .int 0, .int (v % 2147483629 + 7 * k)], ⟨_, _, _, _, rfl⟩, ?_⟩
  refine (defM_run (io := []) (np := 2) (nl := 1) (body := B_law_hand) rfl rfl).trans ?_
  have p1 : CPow 10 18 := ⟨by decide, by decide, by decide⟩
  have p2 : CMul 7 (k : Int) := .inl (by decide)
  simp [B_law_hand, isOwn, e, o_icmp, o_mod, o_mul, o_add, o_pow, f_int, p1, p2, SZ]
end Gk
set_option linter.all false
set_option maxRecDepth 100000
set_option maxHeartbeats 4000000
namespace Gk
open PySem L2 Ml
/-- comings -/
def Dig (c : List Int) : Prop := c.length ≤ 30 ∧ ∀ v ∈ c, 0 ≤ v ∧ v < 3
theorem sI_dig {v : Int} (h : 0 ≤ v ∧ v < 3) : (sI v).length = 1 := by
  have : v = 0 ∨ v = 1 ∨ v = 2 := by omega
  rcases this with rfl | rfl | rfl <;> decide +kernel
def DS (c : List Int) : Str := Txt.join "" (c.map sI)
theorem digs_sum {c : List Int} (h : ∀ v ∈ c, 0 ≤ v ∧ v < 3) : ((c.map sI).map (·.length)).sum = c.length := by
  induction c with
  | nil => rfl
  | cons v c ih =>
    simp only [List.map_cons, List.sum_cons, List.length_cons, sI_dig (h v List.mem_cons_self)]
    rw [ih fun x m => h x (List.mem_cons_of_mem _ m)]; omega
theorem log_small {i : Int} (h : i.natAbs < 10 ^ 12) : i.natAbs.log2 < 1920 := by
  by_cases z : i.natAbs = 0
  · rw [z]; decide
  · exact (Nat.log2_lt z).mpr (Nat.lt_trans h (by decide +kernel))
theorem strsOf_sI (c : List Int) : strsOf ((c.map D.int).map fun d => match d with | .int i => D.str (sI i) | d => d) = some (c.map sI) := by
  induction c with
  | nil => rfl
  | cons v c ih => simp only [List.map_cons, strsOf]; rw [ih]; rfl
/-- ''.join([str(x) for x in c]) -/
theorem join_dig {c : List Int} (h : Dig c) : f_join "" [.lst ((c.map D.int).map fun d => match d with | .int i => D.str (sI i) | d => d)] = some (.str (DS c)) := by
  unfold f_join
  simp only [seqOf, strsOf_sI]
  rw [if_pos]
  · rfl
  · rw [digs_sum h.2]
    have e : ("" : Str).length = 0 := by decide +kernel
    rw [e]
    have := h.1
    omega
end Gk
set_option linter.all false
set_option maxRecDepth 100000
set_option maxHeartbeats 4000000
namespace Gk
open PySem L2 Ml
def strD : D → D := fun d => match d with | .int i => D.str (sI i) | d => d
theorem str_map {c : List Int} (hc : Dig c) (i : Nat) (r : Rho) (hi : i < r.length) (hr : keepFz r[i]? = (r[i]?.getD .un)) : lcD [i] (g_name i) t_yes (os f_str (a_cons (p_d (e_var i)) a_nil)) (c.map D.int) [] r = .ok ((c.map D.int).map strD) r := by
  have := lcD_map (vs := [i]) (gb := g_name i) (te := os f_str (a_cons (p_d (e_var i)) a_nil)) strD r (c.map D.int) [] (fun d m => ?_) (by simp [SZ]; have := hc.1; omega)
  · simpa using this
  · obtain ⟨v, hv, rfl⟩ := List.mem_map.mp m
    have hd := hc.2 v hv
    have hl : v.natAbs.log2 < 1920 := log_small (by omega)
    refine ⟨r.set i (.fz (.int v)), r.set i (.fz (.int v)), ?_, ?_, ?_⟩
    · simp [g_name, wipeR]
    · simp [hl, strD, List.getElem?_set_self hi]
    · simp only [restR, List.set_set]
      rw [hr]
      refine List.ext_getElem? fun j => ?_
      by_cases z : j = i
      · subst z; rw [List.getElem?_set_self hi, List.getElem?_eq_getElem hi]; rfl
      · rw [List.getElem?_set_ne (Ne.symm z)]
/-- the text of comings n times -/
def SW (c : List Int) (n : Int) : Str := if n = 1 then DS c else sI n ++ "*" ++ DS c
theorem app_nil (x : Str) : Str.empty ++ x = x := by
  show (⟨#[] ++ x.cps⟩ : Str) = x
  simp
theorem app_len (x y : Str) : (x ++ y).length = x.length + y.length := by
  show (x.cps ++ y.cps).size = _
  rw [Array.size_append]; rfl
theorem join_digL {c : List Int} (h : Dig c) : f_join "" [.lst ((c.map D.int).map strD)] = some (.str (DS c)) := join_dig h
theorem plain_ok (a b c s w : Int) (w0 : 0 ≤ w) (w1 : w ≤ 30) : ∃ (vs : List Int) (h' : Slot), HO h' ∧ Dig vs ∧ vs.length = w.toNat ∧ M_law_plain_word [.own [.int a, .int b, .int c, .int s], .fz (.int w)] = .ret (.fz (.str (DS vs))) [h', .un] := by
  obtain ⟨vs, h', ⟨a', b', c', s', rfl⟩, hl, hv, e⟩ := some_ok a b c s 3 w (by decide) (by decide) w0 (by omega)
  have hd : Dig vs := ⟨by omega, hv⟩
  refine ⟨vs, _, ⟨a', b', c', s', rfl⟩, hd, hl, ?_⟩
  refine (defM_run (io := [0]) (np := 2) (nl := 1) (body := B_law_plain_word) rfl rfl).trans ?_
  have hm := str_map hd 2 [.own [.int a', .int b', .int c', .int s'], .fz (.int w), .un] (by simp) rfl
  have hj := join_digL hd
  simp [B_law_plain_word, isOwn, e] at hm hj ⊢
  simp [hm, hj, isOwn]
theorem sI_len {i : Int} (h : i.natAbs < 10 ^ 12) : (sI i).length ≤ 13 := by
  unfold sI
  rw [PySem.ofString_length]
  exact PySem.int_text_length_le10 (by decide) h
theorem sjoin_len : ∀ l : List Str, (Str.join "" l).length = (l.map (·.length)).sum
  | [] => by decide +kernel
  | [x] => by show x.length = _; simp
  | x :: y :: l => by
    have ih := sjoin_len (y :: l)
    have e : ("" : Str).length = 0 := by decide +kernel
    show (x ++ "" ++ Str.join "" (y :: l)).length = _
    rw [app_len, app_len, ih, e]
    simp
theorem join_len (l : List Str) : (Txt.join "" l).length = (l.map (·.length)).sum := by rw [TL.join_eq]; exact sjoin_len l
theorem DS_len {c : List Int} (h : Dig c) : (DS c).length ≤ 30 := by
  unfold DS
  rw [join_len, digs_sum h.2]
  exact h.1
theorem stretch_ok {c : List Int} (hc : Dig c) (n : Int) (n0 : 1 ≤ n) (n1 : n ≤ 1000000) : M_law_stretch [.fz (.tup (c.map D.int)), .fz (.int n)] = .ret (.fz (.str (SW c n))) [.un, .un] := by
  refine (defM_run (io := []) (np := 2) (nl := 2) (body := B_law_stretch) rfl rfl).trans ?_
  have hm := str_map hc 3 [.fz (.tup (c.map D.int)), .fz (.int n), .un, .un] (by simp) rfl
  have hj := join_digL hc
  have lo : n.natAbs.log2 < 1920 := log_small (by omega)
  have ls := sI_len (i := n) (by omega)
  have ld := DS_len hc
  by_cases h1 : n = 1
  · subst h1
    simp [B_law_stretch, isOwn, o_icmp, o_gt, SW] at hm hj ⊢
    simp [hm, hj, isOwn, o_gt, o_icmp]
  · have h2 : 1 < n := by omega
    have e1 : ("*" : Str).length = 1 := by decide +kernel
    have z1 : (sI n).length + ("*" : Str).length ≤ SZ := by rw [e1]; unfold SZ; omega
    have z2 : (sI n ++ "*").length + (DS c).length ≤ SZ := by rw [app_len, e1]; unfold SZ; omega
    simp [B_law_stretch, isOwn, o_icmp, o_gt, SW, h1] at hm hj ⊢
    simp [hm, hj, isOwn, o_gt, o_icmp, h2, lo, o_add, z1, z2]
end Gk
set_option linter.all false
set_option maxRecDepth 100000
set_option maxHeartbeats 4000000
namespace Gk
open PySem L2 Ml
theorem SW_len {c : List Int} (hc : Dig c) {n : Int} (n0 : 1 ≤ n) (n1 : n ≤ 1000000) : (SW c n).length ≤ 50 := by
  have ls := sI_len (i := n) (by omega)
  have ld := DS_len hc
  have e1 : ("*" : Str).length = 1 := by decide +kernel
  unfold SW
  split
  · omega
  · rw [app_len, app_len, e1]; omega
theorem comings_word_ok {c : List Int} (hc : Dig c) (n : Int) (n0 : 1 ≤ n) (n1 : n ≤ 1000000) : M_comings_word [.fz (.tup (c.map D.int)), .fz (.int n)] = .ret (.fz (.str (SW c n))) [.un, .un] := by
  refine (defM_run (io := []) (np := 2) (nl := 2) (body := B_comings_word) rfl rfl).trans ?_
  have hm := str_map hc 3 [.fz (.tup (c.map D.int)), .fz (.int n), .un, .un] (by simp) rfl
  have hj := join_digL hc
  have lo : n.natAbs.log2 < 1920 := log_small (by omega)
  have ls := sI_len (i := n) (by omega)
  have ld := DS_len hc
  by_cases h1 : n = 1
  · subst h1
    simp [B_comings_word, isOwn, o_eq, SW] at hm hj ⊢
    simp [hm, hj, isOwn, o_eq]
  · have e1 : ("*" : Str).length = 1 := by decide +kernel
    have z0 : (DS c).length ≤ SZ := by unfold SZ; omega
    have z1 : (sI n).length ≤ SZ := by unfold SZ; omega
    have z2 : (sI n ++ ("*" : Str)).length ≤ SZ := by rw [app_len, e1]; unfold SZ; omega
    have z3 : (sI n ++ ("*" : Str) ++ DS c).length ≤ SZ := by rw [app_len, app_len, e1]; unfold SZ; omega
    simp [B_comings_word, isOwn, o_eq, SW, h1] at hm hj z2 z3 ⊢
    simp [hm, hj, isOwn, o_eq, h1, lo, app_nil, z0, z1, z2, z3]
end Gk
set_option linter.all false
set_option maxRecDepth 100000
set_option maxHeartbeats 4000000
namespace Gk
open PySem L2 Ml
/-- comings, a row, as data -/
abbrev dC (c : List Int) : D := .tup (c.map D.int)
abbrev dR (R : List (List Int)) : List D := R.map dC
theorem dOks_int (n : Nat) (c : List Int) : dOks n (c.map D.int) = true := by
  induction c with
  | nil => unfold dOks; rfl
  | cons v c ih => rw [List.map_cons]; unfold dOks; rw [ih]; simp [dOk]
theorem deqs_int (c d : List Int) : deqs (c.map D.int) (d.map D.int) = decide (c = d) := by
  induction c generalizing d with
  | nil => cases d with
    | nil => simp [deqs]
    | cons y d => simp [deqs]
  | cons x c ih => cases d with
    | nil => simp [deqs]
    | cons y d => simp [deqs, deq, ih, Bool.decide_and]; rfl
theorem ne_dC (c d : List Int) : o_ne (dC c) (dC d) = some (.bl (decide (c ≠ d))) := by
  unfold o_ne o_eq
  simp only [dOk, dOks_int, deq, deqs_int]
  by_cases h : c = d <;> simp [h]
/-- the words of a row: behind the words ws stand many of the comings last -/
def wr (ws : List Str) (last : List Int) (many : Int) : List (List Int) → List Str
  | [] => ws ++ [SW last many]
  | c :: cs => if c = last then wr ws last (many + 1) cs else wr (ws ++ [SW last many]) c 1 cs
def wrs : List (List Int) → List Str
  | [] => []
  | c :: cs => wr [] c 1 cs
end Gk
set_option linter.all false
set_option maxRecDepth 100000
set_option maxHeartbeats 4000000
namespace Gk
open PySem L2 Ml
/-- the body of the loop of _law_written -/
def bodyW : SM := s_seq (s_if (t_and (t_bol (o2 o_notN (p_d (e_var 2)) (p_d (e_c .non)))) (t_bol (o2 o_ne (p_d (e_var 4)) (p_d (e_var 2))))) (s_seq (s_do (e_lm 1 f_append (a_cons (p_d (e_call M_law_stretch (a_cons (p_d (e_var 2)) (a_cons (p_d (e_var 3)) a_nil)))) a_nil)))
    (s_set 3 (e_c (.int 0)))) s_nil)
    (s_seq (s_set 2 (e_var 4))
    (s_set 3 (o2 o_add (p_d (e_var 3)) (p_d (e_c (.int 1))))))
theorem loopW (rw : D) : ∀ (cs : List (List Int)) (ws : List Str) (l : List Int) (k : Int) (x : Slot), Dig l → (∀ c ∈ cs, Dig c) → 1 ≤ k → k + cs.length ≤ 1000000 → ws.length + cs.length < 1000000 →
    ∃ ws' l' k' x', forD (g_name 4) bodyW (dR cs) [.fz rw, .own (ws.map D.str), .fz (dC l), .fz (.int k), x] = .nx [.fz rw, .own (ws'.map D.str), .fz (dC l'), .fz (.int k'), x'] ∧ Dig l' ∧ 1 ≤ k' ∧ k' ≤ 1000000 ∧ ws'.length < 1000000 ∧ wr ws l k cs = ws' ++ [SW l' k']
  | [], ws, l, k, x, hl, _, h1, h2, h3 => ⟨ws, l, k, x, rfl, hl, h1, by simpa using h2, by simpa using h3, rfl⟩
  | c :: cs, ws, l, k, x, hl, hc, h1, h2, h3 => by
    have h2' : k + (cs.length + 1) ≤ 1000000 := by simpa using h2
    have h3' : ws.length + (cs.length + 1) < 1000000 := by simpa using h3
    have hcc := hc c List.mem_cons_self
    have hcs := fun d m => hc d (List.mem_cons_of_mem _ m)
    have ne := ne_dC c l
    have hn : ∀ c : List Int, isNon (dC c) = false := fun _ => rfl
    unfold wr
    by_cases e : c = l
    · subst e
      obtain ⟨ws', l', k', x', i1, i2⟩ := loopW rw cs ws c (k + 1) (.fz (dC c)) hcc hcs (by omega) (by omega) (by omega)
      refine ⟨ws', l', k', x', ?_, by rw [if_pos rfl]; exact i2⟩
      have st : bodyW [.fz rw, .own (ws.map D.str), .fz (dC c), .fz (.int k), .fz (dC c)] = .nx [.fz rw, .own (ws.map D.str), .fz (dC c), .fz (.int (k + 1)), .fz (dC c)] := by
        simp [bodyW, o_notN, hn, ne, o_add]
      simp only [dR, List.map_cons] at i1 ⊢
      unfold forD
      simp only [g_name, List.set_cons_succ, List.set_cons_zero]
      rw [st]
      exact i1
    · obtain ⟨ws', l', k', x', i1, i2⟩ := loopW rw cs (ws ++ [SW l k]) c 1 (.fz (dC c)) hcc hcs (by omega) (by omega) (by simp; omega)
      refine ⟨ws', l', k', x', ?_, by rw [if_neg e]; exact i2⟩
      have hs := stretch_ok hl k h1 (by omega)
      have hz : ws.length < SZ := by unfold SZ; omega
      have st : bodyW [.fz rw, .own (ws.map D.str), .fz (dC l), .fz (.int k), .fz (dC c)] = .nx [.fz rw, .own ((ws ++ [SW l k]).map D.str), .fz (dC c), .fz (.int 1), .fz (dC c)] := by
        simp [bodyW, o_notN, hn, ne, e, o_add, hs, hz]
      simp only [dR, List.map_cons] at i1 ⊢
      unfold forD
      simp only [g_name, List.set_cons_succ, List.set_cons_zero]
      rw [st]
      exact i1
end Gk
set_option linter.all false
set_option maxRecDepth 100000
set_option maxHeartbeats 4000000
namespace Gk
open PySem L2 Ml
theorem wr_props : ∀ (cs : List (List Int)) (ws : List Str) (l : List Int) (k : Int), Dig l → (∀ c ∈ cs, Dig c) → 1 ≤ k → k + cs.length ≤ 1000000 → (∀ w ∈ ws, w.length ≤ 50) → (wr ws l k cs).length ≤ ws.length + 1 + cs.length ∧ ∀ w ∈ wr ws l k cs, w.length ≤ 50
  | [], ws, l, k, hl, _, h1, h2, hw => by
    unfold wr
    refine ⟨by simp, fun w m => ?_⟩
    rcases List.mem_append.mp m with m | m
    · exact hw w m
    · cases List.mem_singleton.mp m; exact SW_len hl h1 (by simpa using h2)
  | c :: cs, ws, l, k, hl, hc, h1, h2, hw => by
    have h2' : k + (cs.length + 1) ≤ 1000000 := by simpa using h2
    have hcc := hc c List.mem_cons_self
    have hcs := fun d m => hc d (List.mem_cons_of_mem _ m)
    unfold wr
    split
    · obtain ⟨a, b⟩ := wr_props cs ws l (k + 1) hl hcs (by omega) (by omega) hw
      exact ⟨by simp; omega, b⟩
    · obtain ⟨a, b⟩ := wr_props cs (ws ++ [SW l k]) c 1 hcc hcs (by omega) (by omega) fun w m => by
        rcases List.mem_append.mp m with m | m
        · exact hw w m
        · cases List.mem_singleton.mp m; exact SW_len hl h1 (by omega)
      exact ⟨by simp at a ⊢; omega, b⟩
theorem sum_le {l : List Str} {n : Nat} (h : ∀ w ∈ l, w.length ≤ n) : (l.map (·.length)).sum ≤ n * l.length := by
  induction l with
  | nil => simp
  | cons w l ih =>
    have a := h w List.mem_cons_self
    have b := ih fun x m => h x (List.mem_cons_of_mem _ m)
    simp only [List.map_cons, List.sum_cons, List.length_cons, Nat.mul_add]
    omega
/-- a row that can be -/
def RowOk (R : List (List Int)) : Prop := R.length ≤ 20000 ∧ ∀ c ∈ R, Dig c
theorem wrs_props {R : List (List Int)} (h : RowOk R) : (wrs R).length ≤ R.length ∧ ∀ w ∈ wrs R, w.length ≤ 50 := by
  cases R with
  | nil => exact ⟨Nat.le_refl _, fun w m => by cases m⟩
  | cons c cs =>
    have hl := h.1
    have hl' : cs.length + 1 ≤ 20000 := by simpa using hl
    obtain ⟨a, b⟩ := wr_props cs [] c 1 (h.2 c List.mem_cons_self) (fun d m => h.2 d (List.mem_cons_of_mem _ m)) (by omega) (by omega) fun w m => by cases m
    exact ⟨by simp [wrs] at a ⊢; omega, b⟩
/-- the text of a row -/
def RT (R : List (List Int)) : Str := Txt.join " " (wrs R)
theorem join_words {ws : List Str} (h1 : ws.length ≤ 30000) (h2 : ∀ w ∈ ws, w.length ≤ 50) : f_join " " [.lst (ws.map D.str)] = some (.str (Txt.join " " ws)) := by
  unfold f_join
  simp only [seqOf, strsOf_map]
  have e : (" " : Str).length = 1 := by decide +kernel
  have s := sum_le h2
  rw [if_pos (by rw [e]; omega)]
theorem written_ok {R : List (List Int)} (h : RowOk R) : M_law_written [.fz (.lst (dR R))] = .ret (.fz (.str (RT R))) [.un] := by
  refine (defM_run (io := []) (np := 1) (nl := 4) (body := B_law_written) rfl rfl).trans ?_
  have hw := wrs_props h
  cases R with
  | nil =>
    have hj := join_words (ws := []) (by simp) (fun w m => by cases m)
    simp at hj
    simp [B_law_written, SZ, forD, isOwn, o_notN, Ml.isNon, hj, RT, wrs]
  | cons c cs =>
    have hl := h.1
    have hl' : cs.length + 1 ≤ 20000 := by simpa using hl
    have hc := h.2 c List.mem_cons_self
    obtain ⟨ws, l, k, x, e1, e2, e3, e4, e5, e6⟩ := loopW (.lst (dR (c :: cs))) cs [] c 1 (.fz (dC c)) hc (fun d m => h.2 d (List.mem_cons_of_mem _ m)) (by omega) (by omega) (by simp; omega)
    have hs := stretch_ok e2 k e3 e4
    have hz : ws.length < SZ := by unfold SZ; omega
    have hwr : wrs (c :: cs) = ws ++ [SW l k] := e6
    have hj := join_words (ws := wrs (c :: cs)) (by have := hw.1; omega) hw.2
    rw [hwr] at hj
    have hn : ∀ c : List Int, Ml.isNon (dC c) = false := fun _ => rfl
    have hn0 : Ml.isNon D.non = true := rfl
    have first : bodyW [.fz (.lst (dR (c :: cs))), .own [], .fz .non, .fz (.int 0), .fz (dC c)] = .nx [.fz (.lst (dR (c :: cs))), .own [], .fz (dC c), .fz (.int 1), .fz (dC c)] := by
      simp [bodyW, o_notN, hn0, o_add]
    have loop : forD (g_name 4) bodyW (dR (c :: cs)) [.fz (.lst (dR (c :: cs))), .own [], .fz .non, .fz (.int 0), .un] = .nx [.fz (.lst (dR (c :: cs))), .own (ws.map D.str), .fz (dC l), .fz (.int k), x] := by
      rw [show dR (c :: cs) = dC c :: dR cs from rfl]
      unfold forD
      simp only [g_name, List.set_cons_succ, List.set_cons_zero]
      rw [show D.lst (dC c :: dR cs) = D.lst (dR (c :: cs)) from rfl, first]
      exact e1
    have unf : B_law_written = s_seq (s_own 1 (l_lst a_nil)) (s_seq (s_set 2 (e_c .non)) (s_seq (s_set 3 (e_c (.int 0))) (s_seq (s_for (i_any (e_var 0)) (g_name 4) bodyW) (s_seq (s_if (t_bol (o2 o_notN (p_d (e_var 2)) (p_d (e_c .non)))) (s_do (e_lm 1 f_append (a_cons (p_d (e_call M_law_stretch (a_cons (p_d (e_var 2)) (a_cons (p_d (e_var 3)) a_nil)))) a_nil))) s_nil) (s_ret (e_sm f_join (e_c (.str " ")) (a_cons (p_ow 1) a_nil))))))) := rfl
    rw [unf]
    simp only [List.replicate, List.cons_append, List.nil_append]
    have hz' : ws.length < 16777216 := by omega
    have hn2 : Ml.isNon (dC l) = false := rfl
    have loop' : forD (g_name 4) bodyW (dC c :: List.map dC cs) [.fz (.lst (dC c :: List.map dC cs)), .own [], .fz .non, .fz (.int 0), .un] = .nx [.fz (.lst (dC c :: List.map dC cs)), .own (ws.map D.str), .fz (dC l), .fz (.int k), x] := loop
    have hj2 := hj
    simp at hj2
    simp [SZ, loop', hn2, hn0, hs, hz', o_notN, hj2, RT, hwr, isOwn]
end Gk
set_option linter.all false
set_option maxRecDepth 100000
set_option maxHeartbeats 4000000
namespace Gk
open PySem L2 Ml
theorem atI_nat {α : Type} {l : List α} {j : Nat} {x : α} (h : l[j]? = some x) : L2.atI l (j : Int) = some x := by
  obtain ⟨hj, e⟩ := List.getElem?_eq_some_iff.mp h
  simp [L2.atI, L2.ixN, hj, e]
theorem rng_drop (n j : Nat) (h : j < n) : (rngD 0 n).drop j = .int j :: (rngD 0 n).drop (j + 1) := by
  rw [List.drop_eq_getElem_cons (by simp [rngD]; omega)]
  simp [rngD]
theorem rng_end (n : Nat) : (rngD 0 n).drop n = [] := List.drop_eq_nil_of_le (by simp [rngD])
/-- the body of the loop of row_text -/
def bodyT : SM := (s_if (t_or (t_bol (o2 o_eq (p_d (o2 o_add (p_d (e_var 3)) (p_d (e_c (.int 1))))) (p_d (os f_len (a_cons (p_d (e_var 0)) a_nil))))) (t_bol (o2 o_ne (p_d (o2 o_ix (p_d (e_var 0)) (p_d (o2 o_add (p_d (e_var 3)) (p_d (e_c (.int 1))))))) (p_d (o2 o_ix (p_d (e_var 0)) (p_d (e_var 3))))))) (s_seq (s_do (e_lm 1 f_append (a_cons (p_d (e_call M_comings_word (a_cons (p_d (o2 o_ix (p_d (e_var 0)) (p_d (e_var 3)))) (a_cons (p_d (o2 o_sub (p_d (o2 o_add (p_d (e_var 3)) (p_d (e_c (.int 1))))) (p_d (e_var 2)))) a_nil)))) a_nil)))
    (s_set 2 (o2 o_add (p_d (e_var 3)) (p_d (e_c (.int 1)))))) s_nil)
theorem loopT (rw : D) (R : List (List Int)) (hx : ∀ i : Int, o_ix rw (.int i) = L2.atI (dR R) i) (hl0 : f_len [rw] = some (.int R.length)) (hr : RowOk R) : ∀ (cs : List (List Int)) (j : Nat) (l : List Int) (ws : List Str) (b : Nat) (x : Slot),
    R.drop j = l :: cs → b ≤ j → ws.length ≤ b →
    ∃ x' b', forD (g_name 3) bodyT ((rngD 0 R.length).drop j) [.fz rw, .own (ws.map D.str), .fz (.int b), x] = .nx [.fz rw, .own ((wr ws l ((j : Int) + 1 - b) cs).map D.str), .fz (.int b'), x']
  | cs, j, l, ws, b, x, h, hb, hw => by
    have hj : j < R.length := by
      rcases Nat.lt_or_ge j R.length with h1 | h1
      · exact h1
      · rw [List.drop_eq_nil_of_le h1] at h; cases h
    have hl : R[j]? = some l := by
      have := congrArg (fun z => z[0]?) h
      simpa using this
    have hlen : cs.length + 1 + j = R.length := by
      have := congrArg List.length h
      simp at this; omega
    have hm : R.length ≤ 20000 := hr.1
    have hdl : Dig l := hr.2 l (List.mem_of_getElem? hl)
    have hcw := comings_word_ok hdl ((j : Int) + 1 - b) (by omega) (by omega)
    have hz : ws.length < SZ := by unfold SZ; omega
    have hil : o_ix rw (.int j) = some (dC l) := by
      rw [hx]; exact atI_nat (by simp [dR, hl])
    rw [rng_drop _ _ hj]
    unfold forD
    simp only [g_name, List.set_cons_succ, List.set_cons_zero]
    cases cs with
    | nil =>
      have e : (j : Int) + 1 = R.length := by simp at hlen; omega
      have st : bodyT [.fz rw, .own (ws.map D.str), .fz (.int b), .fz (.int j)] = .nx [.fz rw, .own ((ws ++ [SW l ((j : Int) + 1 - b)]).map D.str), .fz (.int (j + 1)), .fz (.int j)] := by
        simp [bodyT, o_add, hl0, e, o_eq, hil, o_sub] at hcw ⊢
        simp [hcw, hz, o_add, e]
      rw [st]
      have e2 : j + 1 = R.length := by simp at hlen; omega
      refine ⟨.fz (.int j), j + 1, ?_⟩
      rw [e2, rng_end]
      unfold forD wr
      rfl
    | cons c cs =>
      have hlen' : cs.length + 1 + 1 + j = R.length := by simpa using hlen
      have e : (j : Int) + 1 ≠ R.length := by omega
      have h' : R.drop (j + 1) = c :: cs := by
        have := congrArg (List.drop 1) h
        simpa using this
      have hlc : R[j + 1]? = some c := by
        have := congrArg (fun z => z[0]?) h'
        simpa using this
      have hic : o_ix rw (.int ((j : Int) + 1)) = some (dC c) := by
        rw [hx]; exact atI_nat (j := j + 1) (by simp [dR, hlc])
      have ne := ne_dC c l
      by_cases ec : c = l
      · have st : bodyT [.fz rw, .own (ws.map D.str), .fz (.int b), .fz (.int j)] = .nx [.fz rw, .own (ws.map D.str), .fz (.int b), .fz (.int j)] := by
          simp only [ec] at hic
          have ne2 : o_ne (dC l) (dC l) = some (.bl false) := by rw [ne_dC]; simp
          simp [bodyT, o_add, hl0, e, o_eq, hil, hic, ne2]
        rw [st]
        obtain ⟨x', b', i⟩ := loopT rw R hx hl0 hr cs (j + 1) c ws b (.fz (.int j)) h' (by omega) hw
        refine ⟨x', b', ?_⟩
        unfold wr
        rw [if_pos ec, ← ec]
        have : ((j + 1 : Nat) : Int) + 1 - b = (j : Int) + 1 - b + 1 := by omega
        rw [this] at i
        exact i
      · have st : bodyT [.fz rw, .own (ws.map D.str), .fz (.int b), .fz (.int j)] = .nx [.fz rw, .own ((ws ++ [SW l ((j : Int) + 1 - b)]).map D.str), .fz (.int ((j + 1 : Nat) : Int)), .fz (.int j)] := by
          simp [bodyT, o_add, hl0, e, o_eq, hil, hic, ne, ec, o_sub] at hcw ⊢
          simp [hcw, hz, o_add]
        rw [st]
        obtain ⟨x', b', i⟩ := loopT rw R hx hl0 hr cs (j + 1) c (ws ++ [SW l ((j : Int) + 1 - b)]) (j + 1) (.fz (.int j)) h' (by omega) (by simp; omega)
        refine ⟨x', b', ?_⟩
        unfold wr
        rw [if_neg ec]
        have : ((j + 1 : Nat) : Int) + 1 - (j + 1 : Nat) = 1 := by omega
        rw [this] at i
        exact i
end Gk
set_option linter.all false
set_option maxRecDepth 100000
set_option maxHeartbeats 4000000
namespace Gk
open PySem L2 Ml
theorem tA (R : List (List Int)) (hm : R.length ≤ 20000) : inRng (R.length : Int) = true := by simp [inRng]; omega
theorem tB (rw : D) (R : List (List Int)) (c : List Int) (cs : List (List Int)) (hR : R = c :: cs) (hx : ∀ i : Int, o_ix rw (.int i) = L2.atI (dR R) i) (hl0 : f_len [rw] = some (.int R.length)) (hr : RowOk R) : ∃ x' b', forD (g_name 3) bodyT (rngD 0 R.length) [.fz rw, .own [], .fz (.int 0), .un] = .nx [.fz rw, .own ((wrs R).map D.str), .fz (.int b'), x'] := by
  obtain ⟨x', b', i⟩ := loopT rw R hx hl0 hr cs 0 c [] 0 .un (by rw [hR]; rfl) (Nat.le_refl _) (Nat.le_refl _)
  have e : ((0 : Nat) : Int) + 1 - ((0 : Nat) : Int) = 1 := by omega
  have hwr : wr [] c 1 cs = wrs R := by rw [hR]; rfl
  rw [e, hwr] at i
  exact ⟨x', b', i⟩
theorem tC (rw : D) (n : Int) (W : List Str) (S : Str) (x' : Slot) (b' : Int) (hi : inRng n = true) (hl0 : f_len [rw] = some (.int n)) (i : forD (g_name 3) bodyT (rngD 0 n) [.fz rw, .own [], .fz (.int 0), .un] = .nx [.fz rw, .own (W.map D.str), .fz (.int b'), x']) (hj : f_join " " [.lst (W.map D.str)] = some (.str S)) : M_row_text [.fz rw] = .ret (.fz (.str S)) [.un] := by
  refine (defM_run (io := []) (np := 1) (nl := 3) (body := B_row_text) rfl rfl).trans ?_
  have unf : B_row_text = s_seq (s_own 1 (l_lst a_nil)) (s_seq (s_set 2 (e_c (.int 0))) (s_seq (s_for (i_rng1 (a_cons (p_d (os f_len (a_cons (p_d (e_var 0)) a_nil))) a_nil)) (g_name 3) bodyT) (s_ret (e_sm f_join (e_c (.str " ")) (a_cons (p_ow 1) a_nil))))) := rfl
  rw [unf]
  simp [hl0, hi, i, hj, isOwn]
theorem row_text_nil (rw : D) (hl0 : f_len [rw] = some (.int 0)) : M_row_text [.fz rw] = .ret (.fz (.str (RT []))) [.un] := by
  refine (defM_run (io := []) (np := 1) (nl := 3) (body := B_row_text) rfl rfl).trans ?_
  have unf : B_row_text = s_seq (s_own 1 (l_lst a_nil)) (s_seq (s_set 2 (e_c (.int 0))) (s_seq (s_for (i_rng1 (a_cons (p_d (os f_len (a_cons (p_d (e_var 0)) a_nil))) a_nil)) (g_name 3) bodyT) (s_ret (e_sm f_join (e_c (.str " ")) (a_cons (p_ow 1) a_nil))))) := rfl
  rw [unf]
  have hj : f_join " " [.lst []] = some (.str (RT [])) := join_words (ws := []) (by simp) (by simp)
  have h1 : inRng 0 = true := by decide
  have h2 : rngD 0 0 = [] := rfl
  have h4 : ∀ r, forD (g_name 3) bodyT [] r = .nx r := fun _ => by unfold forD; rfl
  simp [hl0, h1, h2, h4, hj, isOwn]
theorem tD {R : List (List Int)} (hr : RowOk R) : f_join " " [.lst ((wrs R).map D.str)] = some (.str (RT R)) := join_words (ws := wrs R) (Nat.le_trans (wrs_props hr).1 (Nat.le_trans hr.1 (by decide))) (wrs_props hr).2
theorem row_text_of (rw : D) (R : List (List Int)) (hx : ∀ i : Int, o_ix rw (.int i) = L2.atI (dR R) i) (hl0 : f_len [rw] = some (.int R.length)) (hr : RowOk R) : M_row_text [.fz rw] = .ret (.fz (.str (RT R))) [.un] := by
  cases hc : R with
  | nil => subst hc; exact row_text_nil rw hl0
  | cons c cs =>
    rw [← hc]
    obtain ⟨x', b', i⟩ := tB rw R c cs hc hx hl0 hr
    exact tC rw _ _ _ x' b' (tA R hr.1) hl0 i (tD hr)
theorem row_text_lst {R : List (List Int)} (h : RowOk R) : M_row_text [.fz (.lst (dR R))] = .ret (.fz (.str (RT R))) [.un] := row_text_of _ R (fun _ => rfl) (by simp [f_len, seqOf]) h
theorem row_text_tup {R : List (List Int)} (h : RowOk R) : M_row_text [.fz (.tup (dR R))] = .ret (.fz (.str (RT R))) [.un] := row_text_of _ R (fun _ => rfl) (by simp [f_len, seqOf]) h
end Gk
set_option linter.all false
set_option maxRecDepth 100000
set_option maxHeartbeats 4000000
namespace Gk
open PySem L2 Ml
theorem same_str (n : Nat) (x y : Str) : M_law_same (n + 1) [.fz (.str x), .fz (.str y)] = .ret (.fz (.bl (decide (x = y)))) [.un, .un] := by
  unfold M_law_same
  refine (defM_run (io := []) (np := 2) (nl := 1) (body := B_law_same (M_law_same n)) rfl rfl).trans ?_
  simp [B_law_same, isOwn, o_isN, Ml.isNon, o_isB, isBl, o_isi, Ml.tn, tyB, tru, o_eq]
theorem same_int (n : Nat) (x y : Int) : M_law_same (n + 1) [.fz (.int x), .fz (.int y)] = .ret (.fz (.bl (decide (x = y)))) [.un, .un] := by
  unfold M_law_same
  refine (defM_run (io := []) (np := 2) (nl := 1) (body := B_law_same (M_law_same n)) rfl rfl).trans ?_
  have e : M_law_is_int [.fz (.int x)] = .ret (.fz (.bl true)) [.un] := by
    refine (defM_run (io := []) (np := 1) (nl := 0) (body := B_law_is_int) rfl rfl).trans ?_
    simp [B_law_is_int, isOwn, o_isi, Ml.tn, tyB]
  simp [B_law_same, isOwn, o_isN, Ml.isNon, o_isB, isBl, o_isi, Ml.tn, tyB, tru, o_eq, e]
end Gk
set_option linter.all false
set_option maxRecDepth 100000
set_option maxHeartbeats 4000000
namespace Gk
open PySem L2 Ml
theorem dOks_dR (n : Nat) (R : List (List Int)) : dOks (n + 1) (dR R) = true := by
  induction R with
  | nil => unfold dOks; rfl
  | cons c R ih => unfold dR at ih ⊢; rw [List.map_cons]; unfold dOks; rw [ih]; simp [dOk, dOks_int]
theorem deqs_dR (R S : List (List Int)) : deqs (dR R) (dR S) = decide (R = S) := by
  induction R generalizing S with
  | nil => cases S with
    | nil => simp [deqs]
    | cons y d => simp [deqs]
  | cons x c ih => cases S with
    | nil => simp [deqs]
    | cons y d =>
      have := ih d
      simp only [dR, List.map_cons] at this ⊢
      simp [deqs, deq, deqs_int, this, Bool.decide_and]
theorem eq_dR (R S : List (List Int)) : o_eq (.lst (dR R)) (.lst (dR S)) = some (.bl (decide (R = S))) := by
  unfold o_eq
  simp only [dOk, dOks_dR, deq, deqs_dR]
  simp
theorem ne_dR (R S : List (List Int)) : o_ne (.lst (dR R)) (.lst (dR S)) = some (.bl (!decide (R = S))) := by
  unfold o_ne; rw [eq_dR]
theorem written_right {R : List (List Int)} (h : RowOk R) : M_law_written_right [.fz (.lst (dR R))] = .ret (.fz (.bl true)) [.un] := by
  refine (defM_run (io := []) (np := 1) (nl := 2) (body := B_law_written_right) rfl rfl).trans ?_
  have h1 := written_ok h
  have h2 := row_text_lst h
  have h3 := row_text_tup h
  have h4 := ne_dR R R
  have hl : f_list [.lst (dR R)] = some (dR R) := rfl
  have ht : f_tuple [.lst (dR R)] = some (.tup (dR R)) := rfl
  have hm : o_mul (.lst [.int 1]) (.int 3) = some (.lst (repD [.int 1] 3)) := by rfl
  have hu : ∀ l, f_tuple [.lst l] = some (.tup l) := fun _ => rfl
  have hz : (dR R).length < 16777216 := by have := h.1; rw [List.length_map]; omega
  generalize dR R = X at *
  generalize RT R = Y at *
  have hs := same_str 5 Y Y
  have hs : M_law_same 6 [.fz (.str Y), .fz (.str Y)] = .ret (.fz (.bl true)) [.un, .un] := (same_str 5 Y Y).trans (by simp)
  have h5 : o_ne (.lst X) (.lst X) = some (.bl false) := h4.trans (by simp)
  simp -implicitDefEqProofs [B_law_written_right, isOwn, hl, h1, h2, h3, h5, hs, tru, hm, ht, hu, SZ, hz, o_eq]
end Gk
set_option linter.all false
set_option maxRecDepth 100000
set_option maxHeartbeats 4000000
namespace Gk
open PySem L2 Ml
theorem take_hs (x : HS) (m : Int) (h0 : 0 < m) (h1 : m < 1073741824) : M_law_take [hs x, .fz (.int m)] = .ret (.fz (.int (x.val m))) [hs (x.next m), .un] := hx_take x m h0 h1
theorem some_hs (x : HS) (n m : Int) (h0 : 0 < m) (h1 : m < 1073741824) (n0 : 0 ≤ n) (n1 : n ≤ 1000) :
    ∃ (vs : List Int) (y : HS), vs.length = n.toNat ∧ (∀ v ∈ vs, 0 ≤ v ∧ v < m) ∧ M_law_some [hs x, .fz (.int n), .fz (.int m)] = .ret (.fz (.lst (vs.map D.int))) [hs y, .un, .un] := by
  obtain ⟨a, b, c, s⟩ := x
  obtain ⟨vs, h', ⟨a', b', c', s', rfl⟩, h2, h3, e⟩ := some_ok a b c s m n h0 h1 n0 n1
  exact ⟨vs, ⟨a', b', c', s'⟩, h2, h3, e⟩
theorem plain_hs (x : HS) (w : Int) (w0 : 0 ≤ w) (w1 : w ≤ 30) : ∃ (t : Str) (y : HS), t.length ≤ 30 ∧ M_law_plain_word [hs x, .fz (.int w)] = .ret (.fz (.str t)) [hs y, .un] := by
  obtain ⟨a, b, c, s⟩ := x
  obtain ⟨vs, h', ⟨a', b', c', s', rfl⟩, h2, h3, e⟩ := plain_ok a b c s w w0 w1
  exact ⟨DS vs, ⟨a', b', c', s'⟩, DS_len h2, e⟩
theorem sI_small {i : Int} (h0 : 0 ≤ i) (h1 : i < 100000) : (sI i).length ≤ 13 ∧ i.natAbs.log2 < 1920 := ⟨sI_len (by omega), log_small (by omega)⟩
theorem str_val (x : HS) (m : Int) (h0 : 0 < m) (h1 : m < 100000) : f_str [.int (x.val m)] = some (.str (sI (x.val m))) ∧ (sI (x.val m)).length ≤ 13 := by
  have h2 := x.val_nonneg h0
  have h3 := x.val_lt h0
  have h4 := sI_small h2 (by omega)
  exact ⟨by simp [h4.2], h4.1⟩
theorem str_val1 (x : HS) (m : Int) (h0 : 0 < m) (h1 : m < 90000) : f_str [.int (1 + x.val m)] = some (.str (sI (1 + x.val m))) ∧ (sI (1 + x.val m)).length ≤ 13 := by
  have h2 := x.val_nonneg h0
  have h3 := x.val_lt h0
  have h4 := sI_small (i := 1 + x.val m) (by omega) (by omega)
  exact ⟨by simp [h4.2], h4.1⟩
/-- a text of at most n signs, and the hand -/
def TH (n : Nat) (k : Nat) : Slot → Rho → Prop := fun s o => ∃ (t : Str) (y : HS), s = .fz (.str t) ∧ t.length ≤ n ∧ o = hs y :: List.replicate k .un
theorem ix_val {l : List D} {P : D → Prop} (x : HS) {m : Int} (h0 : 0 < m) (hm : m ≤ l.length) (h : ∀ d ∈ l, P d) : ∃ d, o_ix (.lst l) (.int (x.val m)) = some d ∧ P d := by
  have h2 := x.val_nonneg h0
  have h3 := x.val_lt h0
  have hk : (x.val m).toNat < l.length := by omega
  refine ⟨l[(x.val m).toNat], ?_, h _ (List.getElem_mem hk)⟩
  have := atI_nat (l := l) (j := (x.val m).toNat) (x := l[(x.val m).toNat]) (by simp [hk])
  rw [Int.toNat_of_nonneg h2] at this
  exact this
theorem number_word_hs (x : HS) : FP (M_law_number_word [hs x]) (TH 13 0) := by
  unfold M_law_number_word
  rw [defM_run (io := [0]) (np := 1) (nl := 1) (body := B_law_number_word) rfl rfl]
  have e1 := (str_val1 ((x.next 10)) 3 (by decide) (by decide))
  have e2 := (str_val1 ((x.next 10)) 12 (by decide) (by decide))
  have e3 := (str_val ((x.next 10)) 1003 (by decide) (by decide))
  obtain ⟨d, e4, t, rfl, ht⟩ := ix_val (P := fun d => ∃ t : Str, d = .str t ∧ t.length ≤ 13) (l := [.str "", .str "0", .str "00", .str "007", .str "01", .str "1000", .str "+1", .str "1a", .str "-1", .str "a"]) (x.next 10) (m := 10) (by decide) (by decide) (by
    intro d hd
    simp only [List.mem_cons, List.not_mem_nil, or_false] at hd
    rcases hd with rfl | rfl | rfl | rfl | rfl | rfl | rfl | rfl | rfl | rfl <;> exact ⟨_, rfl, by decide +kernel⟩)
  simp -implicitDefEqProofs [B_law_number_word, take_hs, o_icmp, o_eq, o_add, ksi_ite, thn_ite, outD_ite, FP_ite, FP_ret, e1.1, e2.1, e3.1, e4, SZ, TH, e1.2, e2.2, e3.2, ht, hs_inj]
end Gk
set_option linter.all false
set_option maxRecDepth 100000
set_option maxHeartbeats 4000000
namespace Gk
open PySem L2 Ml
theorem cut_len (s : Str) (h : s.length ≤ SZ) : f_slice (.str s) (some 1) none = some (.str (L2.cutS s (some 1) none)) := by simp [f_slice, h]
theorem lit_len1 : ("*(" : Str).length = 2 ∧ ("*" : Str).length = 1 ∧ ("2*2*" : Str).length = 4 ∧ ("1*(" : Str).length = 3 ∧ ("3" : Str).length = 1 := by decide +kernel
theorem cutS_len (s : Str) (lo hi : Option Int) : (L2.cutS s lo hi).length ≤ s.length := by
  unfold L2.cutS
  simp only [Str.length, List.size_toArray, List.length_take, List.length_drop, Array.length_toList]
  omega
theorem word_hs (x : HS) (w : Int) (w0 : 0 ≤ w) (w1 : w ≤ 30) : FP (M_law_word [hs x, .fz (.int w)]) (TH 50 1) := by
  unfold M_law_word
  rw [defM_run (io := [0]) (np := 2) (nl := 3) (body := B_law_word) rfl rfl]
  obtain ⟨s1, o1, e1, t1, y1, rfl, l1, rfl⟩ := number_word_hs (x.next 12)
  obtain ⟨t2, y2, l2, e2⟩ := plain_hs (x.next 12) w w0 w1
  obtain ⟨s3, o3, e3, t3, y3, rfl, l3, rfl⟩ := number_word_hs y2
  obtain ⟨q1, q2, q3, q4, q5⟩ := lit_len1
  obtain ⟨d4, e4, t4, rfl, l4⟩ := ix_val (P := fun d => ∃ t : Str, d = .str t ∧ t.length ≤ 1) (l := [.str "0", .str "3", .str "a", .str "*", .str "(", .str ")"]) y2 (m := 6) (by decide) (by decide) (by
    intro d hd
    simp only [List.mem_cons, List.not_mem_nil, or_false] at hd
    rcases hd with rfl | rfl | rfl | rfl | rfl | rfl <;> exact ⟨_, rfl, by decide +kernel⟩)
  have l5 := cutS_len t2 (some 1) none
  have e5 := cut_len t2 (by unfold SZ; omega)
  generalize L2.cutS t2 (some 1) none = t5 at *
  have a1 : (("2*2*" : Str) ++ t2).length ≤ 50 := by rw [app_len, q3]; omega
  have a2 : (("1*(" : Str) ++ t2).length ≤ 50 := by rw [app_len, q4]; omega
  have a3 : (("3" : Str) ++ t5).length ≤ 50 := by rw [app_len, q5]; omega
  have a4 : (("*" : Str) ++ t2).length ≤ 50 := by rw [app_len, q2]; omega
  obtain ⟨d6, e6, t6, rfl, l6⟩ := ix_val (P := fun d => ∃ t : Str, d = .str t ∧ t.length ≤ 50) (l := [.str "", .str "(", .str "*", .str "2*", .str "2*)", .str "*(", .str ("2*2*" ++ t2), .str ("1*(" ++ t2), .str t5, .str ("3" ++ t5), .str ("*" ++ t2), .str "))"]) y2 (m := 12) (by decide) (by simp) (by
    intro d hd
    simp only [List.mem_cons, List.not_mem_nil, or_false] at hd
    rcases hd with rfl | rfl | rfl | rfl | rfl | rfl | rfl | rfl | rfl | rfl | rfl | rfl <;> exact ⟨_, rfl, by first | decide +kernel | omega⟩)
  have b1 : t1.length + ("*(" : Str).length ≤ SZ := by rw [q1]; unfold SZ; omega
  have b2 : t3.length + ("*" : Str).length ≤ SZ := by rw [q2]; unfold SZ; omega
  have b3 : (t3 ++ "*").length + t2.length ≤ SZ := by rw [app_len, q2]; unfold SZ; omega
  have b4 : t2.length + t4.length ≤ SZ := by unfold SZ; omega
  have b5 : ("2*2*" : Str).length + t2.length ≤ SZ := by rw [q3]; unfold SZ; omega
  have b6 : ("1*(" : Str).length + t2.length ≤ SZ := by rw [q4]; unfold SZ; omega
  have b7 : ("3" : Str).length + t5.length ≤ SZ := by rw [q5]; unfold SZ; omega
  have b8 : ("*" : Str).length + t2.length ≤ SZ := by rw [q2]; unfold SZ; omega
  have c1 : (t1 ++ ("*(" : Str)).length ≤ 50 := by rw [app_len, q1]; omega
  have c2 : (t3 ++ ("*" : Str) ++ t2).length ≤ 50 := by rw [app_len, app_len, q2]; omega
  have c3 : (t2 ++ t4).length ≤ 50 := by rw [app_len]; omega
  have c4 : (")" : Str).length ≤ 50 := by decide +kernel
  have z1 : (12 : Nat) ≤ SZ := by decide
  have z2 : (6 : Nat) ≤ SZ := by decide
  simp -implicitDefEqProofs [B_law_word, take_hs, o_icmp, o_eq, o_add, ksi_ite, thn_ite, outD_ite, FP_ite, FP_ret, e1, e2, e3, e4, e5, e6, b1, b2, b3, b4, b5, b6, b7, b8, z1, z2, TH, hs_inj, c1, c2, c3, c4, l6, show t2.length ≤ 50 by omega]
theorem sign_hs (x : HS) : FP (M_law_sign [hs x]) (TH 1 0) := by
  unfold M_law_sign
  rw [defM_run (io := [0]) (np := 1) (nl := 2) (body := B_law_sign) rfl rfl]
  have k1 : ∀ (s : Str) (m : Int), 0 < m → m = s.length → s.length ≤ SZ → ∀ y : HS, ∃ t : Str, o_ix (.str s) (.int (y.val m)) = some (.str t) ∧ t.length ≤ 1 := fun s m h0 hm hz y => by
    have h2 := y.val_nonneg h0
    have h3 := y.val_lt h0
    have hk : (y.val m).toNat < s.cps.toList.length := by simp [Str.length] at hm ⊢; omega
    have := atI_nat (l := s.cps.toList) (j := (y.val m).toNat) (x := s.cps.toList[(y.val m).toNat]) (by simp [hk])
    rw [Int.toNat_of_nonneg h2] at this
    refine ⟨⟨#[s.cps.toList[(y.val m).toNat]]⟩, ?_, Nat.le_refl _⟩
    simp only [o_ix, if_pos hz, this]
    rfl
  have k2 : (" 0012*()*)( 9 21*()" : Str).length = 19 := by decide +kernel
  have k3 : (" !\"#$&'()*+,-./0123456789:;<=>?@ABCDEFGHIJKLMNOPQRSTUVWXYZ[\\]^_" : Str).length = 63 := by decide +kernel
  have k4 : ("`abcdefghijklmnopqrstuvwxyz{|}~" : Str).length = 31 := by decide +kernel
  have k5 : ((" !\"#$&'()*+,-./0123456789:;<=>?@ABCDEFGHIJKLMNOPQRSTUVWXYZ[\\]^_" : Str) ++ ("`abcdefghijklmnopqrstuvwxyz{|}~" : Str)).length = 94 := by rw [app_len, k3, k4]
  obtain ⟨t1, e1, l1⟩ := k1 _ 94 (by decide) (by rw [k5]; rfl) (by rw [k5]; decide) (x.next 20)
  have e2 : x.val 20 < 19 → ∃ t : Str, o_ix (.str " 0012*()*)( 9 21*()") (.int (x.val 20)) = some (.str t) ∧ t.length ≤ 1 := fun h => by
    have h2 := x.val_nonneg (m := 20) (by decide)
    have hk : (x.val 20).toNat < (" 0012*()*)( 9 21*()" : Str).cps.toList.length := by have := k2; simp [Str.length] at this ⊢; omega
    have := atI_nat (l := (" 0012*()*)( 9 21*()" : Str).cps.toList) (j := (x.val 20).toNat) (x := (" 0012*()*)( 9 21*()" : Str).cps.toList[(x.val 20).toNat]) (by simp [hk])
    rw [Int.toNat_of_nonneg h2] at this
    refine ⟨⟨#[(" 0012*()*)( 9 21*()" : Str).cps.toList[(x.val 20).toNat]]⟩, ?_, Nat.le_refl _⟩
    simp only [o_ix, if_pos (show (" 0012*()*)( 9 21*()" : Str).length ≤ SZ by rw [k2]; decide), this]
    rfl
  have z1 : (" !\"#$&'()*+,-./0123456789:;<=>?@ABCDEFGHIJKLMNOPQRSTUVWXYZ[\\]^_" : Str).length + ("`abcdefghijklmnopqrstuvwxyz{|}~" : Str).length ≤ SZ := by rw [k3, k4]; decide
  unfold B_law_sign
  generalize (" !\"#$&'()*+,-./0123456789:;<=>?@ABCDEFGHIJKLMNOPQRSTUVWXYZ[\\]^_" : Str) = A1 at *
  generalize ("`abcdefghijklmnopqrstuvwxyz{|}~" : Str) = A2 at *
  by_cases h : x.val 20 < 19
  · obtain ⟨t2, e2, l2⟩ := e2 h
    simp -implicitDefEqProofs [take_hs, o_icmp, o_add, ksi_ite, thn_ite, outD_ite, FP_ite, FP_ret, h, e2, TH, hs_inj, l2]
  · have hl : f_len [.str (A1 ++ A2)] = some (.int 94) := by
      have : (A1 ++ A2).length ≤ SZ := by rw [k5]; decide
      simp [f_len, k5, show (94 : Nat) ≤ SZ by decide]
    simp -implicitDefEqProofs [take_hs, o_icmp, o_add, ksi_ite, thn_ite, outD_ite, FP_ite, FP_ret, h, TH, hs_inj, z1, hl, e1, l1]
end Gk
set_option linter.all false
set_option maxRecDepth 100000
set_option maxHeartbeats 4000000
namespace Gk
open PySem L2 Ml
/-- words: at most n of them, none long -/
def WL (n : Nat) (ws : List D) : Prop := ws.length ≤ n ∧ ∀ d ∈ ws, ∃ t : Str, d = .str t ∧ t.length ≤ 50
theorem WL.nil : WL 0 [] := ⟨Nat.le_refl _, fun d m => by cases m⟩
theorem WL.mono {n m : Nat} {ws : List D} (h : WL n ws) (k : n ≤ m) : WL m ws := ⟨Nat.le_trans h.1 k, h.2⟩
theorem WL.app {n m : Nat} {ws vs : List D} (h : WL n ws) (k : WL m vs) : WL (n + m) (ws ++ vs) := ⟨by have := h.1; have := k.1; simp; omega, fun d md => by
  rcases List.mem_append.mp md with md | md
  · exact h.2 d md
  · exact k.2 d md⟩
theorem WL.one {t : Str} (h : t.length ≤ 50) : WL 1 [.str t] := ⟨Nat.le_refl _, fun d m => ⟨t, List.mem_singleton.mp m, h⟩⟩
theorem WL.strs {n : Nat} : ∀ {ws : List D}, WL n ws → ∃ ts : List Str, ws = ts.map .str ∧ ts.length ≤ n ∧ ∀ t ∈ ts, t.length ≤ 50 := fun {ws} h => by
  obtain ⟨h1, h2⟩ := h
  have : ∃ ts : List Str, ws = ts.map .str ∧ ∀ t ∈ ts, t.length ≤ 50 := by
    clear h1
    induction ws with
    | nil => exact ⟨[], rfl, fun t m => by cases m⟩
    | cons d ws ih =>
      obtain ⟨t, rfl, ht⟩ := h2 d List.mem_cons_self
      obtain ⟨ts, rfl, hs⟩ := ih fun d m => h2 d (List.mem_cons_of_mem _ m)
      exact ⟨t :: ts, rfl, fun u m => by rcases List.mem_cons.mp m with rfl | m; exact ht; exact hs u m⟩
  obtain ⟨ts, rfl, h⟩ := this
  exact ⟨ts, rfl, by simpa using h1, h⟩
theorem join_WL {n : Nat} {ws : List D} (h : WL n ws) (hn : n ≤ 30000) : ∃ t : Str, f_join " " [.lst ws] = some (.str t) ∧ t.length ≤ 60 * n := by
  obtain ⟨ts, rfl, h1, h2⟩ := h.strs
  refine ⟨_, join_words (by omega) h2, ?_⟩
  have e : ∀ l : List Str, (Str.join " " l).length ≤ (l.map (·.length)).sum + l.length := by
    intro l
    induction l with
    | nil => show (Str.join " " []).length ≤ _; exact (by decide +kernel : (Str.join " " []).length ≤ 0)
    | cons x l ih =>
      cases l with
      | nil => show x.length ≤ _; simp
      | cons y l =>
        have e1 : (" " : Str).length = 1 := by decide +kernel
        show (x ++ " " ++ Str.join " " (y :: l)).length ≤ _
        rw [app_len, app_len, e1]
        simp at ih ⊢
        omega
  rw [TL.join_eq]
  have := e ts
  have := sum_le h2
  omega
theorem ap_SZ {n : Nat} {ws : List D} (h : WL n ws) (hn : n ≤ 30000) : ws.length < SZ := by have := h.1; unfold SZ; omega
theorem nest_hs (x : HS) (w : Int) (w0 : 0 ≤ w) (w1 : w ≤ 30) : FP (M_law_nest [hs x, .fz (.int w)]) (fun s o => ∃ (ws : List D) (y : HS), s = .fz (.lst ws) ∧ WL 100 ws ∧ o = [hs y, .un]) := by
  unfold M_law_nest
  rw [defM_run (io := [0]) (np := 2) (nl := 3) (body := B_law_nest) rfl rfl]
  have hd0 := x.val_nonneg (m := 7) (by decide)
  have hd1 := x.val_lt (m := 7) (by decide)
  have i1 : inRng (x.val 7) = true := by simp [inRng]; omega
  have l1 : (rngD 0 (x.val 7)).length ≤ 6 := by rw [rng_len]; omega
  let b1 : SM := (s_seq (s_do (e_lm 2 f_append (a_cons (p_d (o2 o_add (p_d (os f_str (a_cons (p_d (o2 o_add (p_d (e_c (.int 1))) (p_d (e_call M_law_take (a_cons (p_ow 0) (a_cons (p_d (e_c (.int 4))) a_nil)))))) a_nil))) (p_d (e_c (.str "*("))))) a_nil)))
    (s_if (t_bol (o2 o_eq (p_d (e_call M_law_take (a_cons (p_ow 0) (a_cons (p_d (e_c (.int 3))) a_nil)))) (p_d (e_c (.int 0))))) (s_do (e_lm 2 f_append (a_cons (p_d (e_call M_law_plain_word (a_cons (p_ow 0) (a_cons (p_d (e_var 1)) a_nil)))) a_nil))) s_nil))
  let b2 : SM := (s_seq (s_do (e_lm 2 f_append (a_cons (p_d (e_c (.str ")"))) a_nil)))
    (s_if (t_bol (o2 o_eq (p_d (e_call M_law_take (a_cons (p_ow 0) (a_cons (p_d (e_c (.int 3))) a_nil)))) (p_d (e_c (.int 0))))) (s_do (e_lm 2 f_append (a_cons (p_d (e_call M_law_plain_word (a_cons (p_ow 0) (a_cons (p_d (e_var 1)) a_nil)))) a_nil))) s_nil))
  obtain ⟨q1, q2, q3, q4, q5⟩ := lit_len1
  -- the first loop
  have L1 := forD_inv (gb := g_name 4) (b := b1) (fun ds r => ∃ (y : HS) (ws : List D) (s : Slot), r = [hs y, .fz (.int w), .own ws, .fz (.int (x.val 7)), s] ∧ WL (20 - 2 * ds.length) ws ∧ ds.length ≤ 10)
    (fun d ds r ⟨y, ws, s, hr, hw, hl⟩ => by
      subst hr
      refine ⟨[hs y, .fz (.int w), .own ws, .fz (.int (x.val 7)), .fz d], ?_⟩
      have e1 := (str_val1 y 4 (by decide) (by decide))
      obtain ⟨t2, y2, l2, e2⟩ := plain_hs ((y.next 4).next 3) w w0 w1
      have hz := ap_SZ hw (by omega)
      have hz1 : ws.length + 1 < SZ := by have := hw.1; unfold SZ; omega
      have z1 : (sI (1 + y.val 4)).length + ("*(" : Str).length ≤ SZ := by rw [q1]; unfold SZ; omega
      have c1 : (sI (1 + y.val 4) ++ ("*(" : Str)).length ≤ 50 := by rw [app_len, q1]; omega
      simp only [List.length_cons] at hw hl
      by_cases h : (y.next 4).val 3 = 0
      · refine ⟨[hs y2, .fz (.int w), .own (ws ++ [.str (sI (1 + y.val 4) ++ "*("), .str t2]), .fz (.int (x.val 7)), .fz d], rfl, .inl ?_, y2, _, _, rfl, ?_, by omega⟩
        · simp -implicitDefEqProofs [b1, take_hs, o_add, e1.1, e2, hz, hz1, z1, o_eq, h]
        · have z := (hw.app (WL.one c1)).app (WL.one (t := t2) (by omega))
          rw [List.append_assoc] at z
          exact z.mono (by omega)
      · refine ⟨[hs ((y.next 4).next 3), .fz (.int w), .own (ws ++ [.str (sI (1 + y.val 4) ++ "*(")]), .fz (.int (x.val 7)), .fz d], rfl, .inl ?_, _, _, _, rfl, (hw.app (WL.one c1)).mono (by omega), by omega⟩
        simp -implicitDefEqProofs [b1, take_hs, o_add, e1.1, e2, hz, z1, o_eq, h])
    (rngD 0 (x.val 7)) [hs (x.next 7), .fz (.int w), .own [], .fz (.int (x.val 7)), .un] ⟨_, _, _, rfl, WL.nil.mono (by omega), by omega⟩
  obtain ⟨r1, e1, y1, ws1, s1, rfl, hw1, _⟩ := L1
  -- words between
  have hk0 := y1.val_nonneg (m := 3) (by decide)
  have hk1 := y1.val_lt (m := 3) (by decide)
  have i2 : inRng (y1.val 3) = true := by simp [inRng]; omega
  have l2 : (rngD 0 (y1.val 3)).length ≤ 2 := by rw [rng_len]; omega
  have L2 := lcD_inv (vs := [4]) (gb := g_name 4) (te := e_call M_law_word (a_cons (p_ow 0) (a_cons (p_d (e_var 1)) a_nil)))
    (fun _ r => ∃ (y : HS) (s : Slot), r = [hs y, .fz (.int w), .own ws1, .fz (.int (x.val 7)), s]) (fun _ y => ∃ t : Str, y = .str t ∧ t.length ≤ 50)
    (fun d ds r ⟨y, s, hr⟩ => by
      subst hr
      obtain ⟨s3, o3, e3, t3, y3, rfl, l3, rfl⟩ := word_hs y w w0 w1
      refine ⟨_, .str t3, [hs y3, .fz (.int w), .own ws1, .fz (.int (x.val 7)), .fz d], rfl, ?_, ⟨t3, rfl, l3⟩, y3, _, rfl⟩
      simp -implicitDefEqProofs [wipeR, e3]) (rngD 0 (y1.val 3)) [] [hs (y1.next 3), .fz (.int w), .own ws1, .fz (.int (x.val 7)), s1] (by simp [SZ]; omega) ⟨_, _, rfl⟩
  obtain ⟨vs, r2, e2, hl2, hP, y2, s2, rfl⟩ := L2
  have hv : WL 2 vs := ⟨by omega, fun d md => by
    obtain ⟨i, hi, ei⟩ := List.getElem_of_mem md
    have hi' : i < (rngD 0 (y1.val 3)).length := by omega
    exact hP i _ d (List.getElem?_eq_getElem hi') (by rw [List.getElem?_eq_getElem hi, ei])⟩
  have hw2 : WL 22 (ws1 ++ vs) := (hw1.app hv).mono (by simp)
  have hz2 : ws1.length + vs.length ≤ SZ := by have := hw1.1; have := hv.1; unfold SZ; omega
  -- the second loop
  have hj0 := y2.val_nonneg (m := 3) (by decide)
  have hj1 := y2.val_lt (m := 3) (by decide)
  generalize hM : (if x.val 7 - 1 + y2.val 3 > 0 then x.val 7 - 1 + y2.val 3 else 0) = mx
  have hmx : 0 ≤ mx ∧ mx ≤ 8 := by subst hM; split <;> omega
  have e3 : f_max [.int 0, .int (x.val 7 - 1 + y2.val 3)] = some (.int mx) := by subst hM; rfl
  have i3 : inRng mx = true := by simp [inRng]; omega
  have l3 : (rngD 0 mx).length ≤ 8 := by rw [rng_len]; omega
  have c1 : (")" : Str).length ≤ 50 := by decide +kernel
  have L3 := forD_inv (gb := g_name 4) (b := b2) (fun ds r => ∃ (y : HS) (ws : List D) (s : Slot), r = [hs y, .fz (.int w), .own ws, .fz (.int (x.val 7)), s] ∧ WL (100 - 2 * ds.length) ws ∧ ds.length ≤ 10)
    (fun d ds r ⟨y, ws, s, hr, hw, hl⟩ => by
      subst hr
      refine ⟨[hs y, .fz (.int w), .own ws, .fz (.int (x.val 7)), .fz d], ?_⟩
      obtain ⟨t2, y2, l2, e2⟩ := plain_hs (y.next 3) w w0 w1
      have hz := ap_SZ hw (by omega)
      have hz1 : ws.length + 1 < SZ := by have := hw.1; unfold SZ; omega
      simp only [List.length_cons] at hw hl
      by_cases h : y.val 3 = 0
      · refine ⟨[hs y2, .fz (.int w), .own (ws ++ [.str ")", .str t2]), .fz (.int (x.val 7)), .fz d], rfl, .inl ?_, y2, _, _, rfl, ?_, by omega⟩
        · simp -implicitDefEqProofs [b2, take_hs, o_add, e2, hz, hz1, o_eq, h]
        · have z := (hw.app (WL.one c1)).app (WL.one (t := t2) (by omega))
          rw [List.append_assoc] at z
          exact z.mono (by omega)
      · refine ⟨[hs (y.next 3), .fz (.int w), .own (ws ++ [.str ")"]), .fz (.int (x.val 7)), .fz d], rfl, .inl ?_, _, _, _, rfl, (hw.app (WL.one c1)).mono (by omega), by omega⟩
        simp -implicitDefEqProofs [b2, take_hs, o_add, e2, hz, o_eq, h])
    (rngD 0 mx) [hs (y2.next 3), .fz (.int w), .own (ws1 ++ vs), .fz (.int (x.val 7)), s2] ⟨_, _, _, rfl, hw2.mono (by omega), by omega⟩
  obtain ⟨r3, e4, y3, ws3, s3, rfl, hw3, _⟩ := L3
  have la : l_add (.lst ws1) (.lst vs) = some (ws1 ++ vs) := by simp [l_add, hz2]
  simp -implicitDefEqProofs only [b1] at e1
  simp -implicitDefEqProofs only [b2] at e4
  simp -implicitDefEqProofs at e1 e2 e4
  simp -implicitDefEqProofs [B_law_nest, take_hs, i1, e1, i2, e2, la, e3, i3, e4, o_sub, o_add, FP_ret, hs_inj, SZ]
  exact hw3.mono (by simp)
end Gk
set_option linter.all false
set_option maxRecDepth 100000
set_option maxHeartbeats 4000000
namespace Gk
open PySem L2 Ml
theorem edge_hs (x : HS) (w : Int) (w0 : 0 ≤ w) (w1 : w ≤ 30) : FP (M_law_edge [hs x, .fz (.int w)]) (fun s o => ∃ (ws : List D) (y : HS), s = .fz (.lst ws) ∧ WL 100 ws ∧ o = [hs y, .un]) := by
  unfold M_law_edge
  rw [defM_run (io := [0]) (np := 2) (nl := 3) (body := B_law_edge) rfl rfl]
  obtain ⟨t2, y2, l2, e2⟩ := plain_hs x w w0 w1
  obtain ⟨q1, q2, q3, q4, q5⟩ := lit_len1
  have n0 := y2.val_nonneg (m := 4) (by decide)
  have n1 := y2.val_lt (m := 4) (by decide)
  have e1 := (str_val1 y2 4 (by decide) (by decide))
  have cd : CDiv 1000 (1 + y2.val 4) := by
    unfold CDiv; omega
  have k0 := (y2.next 4).val_nonneg (m := 3) (by decide)
  have k1 := (y2.next 4).val_lt (m := 3) (by decide)
  have d0 : 0 ≤ 1000 / (1 + y2.val 4) := Int.ediv_nonneg (by decide) (by omega)
  have d1 : 1000 / (1 + y2.val 4) ≤ 1000 := Int.ediv_le_self _ (by decide)
  have d2 : 1 ≤ 1000 / (1 + y2.val 4) := by
    have : y2.val 4 = 0 ∨ y2.val 4 = 1 ∨ y2.val 4 = 2 ∨ y2.val 4 = 3 := by omega
    rcases this with h | h | h | h <;> rw [h] <;> decide
  generalize hq : 1000 / (1 + y2.val 4) = q at *
  have e3 := sI_small (i := q - 1 + (y2.next 4).val 3) (by omega) (by omega)
  have c1 : (sI (1 + y2.val 4) ++ ("*(" : Str)).length ≤ 50 := by rw [app_len, q1]; omega
  have c2 : (sI (q - 1 + (y2.next 4).val 3) ++ ("*" : Str) ++ t2).length ≤ 50 := by rw [app_len, app_len, q2]; omega
  have c3 : (")" : Str).length ≤ 50 := by decide +kernel
  have z1 : (sI (1 + y2.val 4)).length + ("*(" : Str).length ≤ SZ := by rw [q1]; unfold SZ; omega
  have z2 : (sI (q - 1 + (y2.next 4).val 3)).length + ("*" : Str).length ≤ SZ := by rw [q2]; unfold SZ; omega
  have z3 : (sI (q - 1 + (y2.next 4).val 3) ++ ("*" : Str)).length + t2.length ≤ SZ := by rw [app_len, q2]; unfold SZ; omega
  have W : WL 3 [.str (sI (1 + y2.val 4) ++ "*("), .str (sI (q - 1 + (y2.next 4).val 3) ++ "*" ++ t2), .str ")"] := ((WL.one c1).app (WL.one c2)).app (WL.one c3)
  have W1 : WL 1 [.str t2] := WL.one (by omega)
  have s1 : (5 : Nat) ≤ SZ := by decide
  have A1 := W1.app W
  have A2 := A1.app W1
  have A3 := W.app W1
  simp only [List.cons_append, List.nil_append] at A1 A2 A3
  simp -implicitDefEqProofs [B_law_edge, take_hs, o_icmp, o_eq, o_add, o_sub, o_fdiv, cd, hq, ksi_ite, thn_ite, outD_ite, FP_ite, FP_ret, e1.1, e2, e3, z1, z2, z3, hs_inj]
  exact ⟨fun _ => ⟨fun _ => A2.mono (by decide), fun _ => A1.mono (by decide)⟩, fun _ => ⟨fun _ => A3.mono (by decide), fun _ => W.mono (by decide)⟩⟩
def bodyR : SM := (s_seq (s_if (t_bol (o2 o_gt (p_d (e_call M_law_take (a_cons (p_ow 0) (a_cons (p_d (e_c (.int 4))) a_nil)))) (p_d (e_c (.int 0))))) (s_set 3 (os f_tuple (a_cons (p_d (e_call M_law_some (a_cons (p_ow 0) (a_cons (p_d (e_var 1)) (a_cons (p_d (e_c (.int 3))) a_nil))))) a_nil))) s_nil)
    (s_seq (s_set 5 (o2 o_add (p_d (e_c (.int 1))) (p_d (e_call M_law_take (a_cons (p_ow 0) (a_cons (p_d (e_c (.int 3))) a_nil))))))
    (s_seq (s_if (t_and (t_bol (o2 o_lt (p_d (e_var 1)) (p_d (e_c (.int 5))))) (t_and (t_bol (o2 o_lt (p_d (os f_len (a_cons (p_d (e_var 2)) a_nil))) (p_d (e_c (.int 600))))) (t_bol (o2 o_eq (p_d (e_call M_law_take (a_cons (p_ow 0) (a_cons (p_d (e_c (.int 20))) a_nil)))) (p_d (e_c (.int 0))))))) (s_set 5 (o2 o_ix (p_d (e_lst (l_lst (a_cons (p_d (e_c (.int 498))) (a_cons (p_d (e_c (.int 499))) (a_cons (p_d (e_c (.int 500))) (a_cons (p_d (e_c (.int 501))) (a_cons (p_d (e_c (.int 502))) (a_cons (p_d (e_c (.int 997))) (a_cons (p_d (e_c (.int 998))) (a_cons (p_d (e_c (.int 999))) (a_cons (p_d (e_c (.int 1000))) (a_cons (p_d (e_c (.int 1001))) a_nil))))))))))))) (p_d (e_call M_law_take (a_cons (p_ow 0) (a_cons (p_d (e_c (.int 10))) a_nil)))))) s_nil)
    (s_set 2 (o2 o_add (p_d (e_var 2)) (p_d (o2 o_mul (p_d (e_lst (l_lst (a_cons (p_d (e_var 3)) a_nil)))) (p_d (e_var 5)))))))))
/-- a row is made -/
theorem row_hs (x : HS) (w : Int) (w0 : 1 ≤ w) (w1 : w ≤ 24) : ∃ (R : List (List Int)) (y : HS), RowOk R ∧ M_law_row [hs x, .fz (.int w)] = .ret (.fz (.lst (dR R))) [hs y, .un] := by
  unfold M_law_row
  rw [defM_run (io := [0]) (np := 2) (nl := 4) (body := B_law_row) rfl rfl]
  let I : List D → Rho → Prop := fun ds r => ∃ (y : HS) (R : List (List Int)) (c : List Int) (s4 s5 : Slot), r = [hs y, .fz (.int w), .fz (.lst (dR R)), .fz (dC c), s4, s5] ∧ RowOk R ∧ R.length + 1001 * ds.length ≤ 10000 ∧ Dig c
  -- the last part of the turn
  have tail : ∀ (y : HS) (R : List (List Int)) (c : List Int) (d : D) (many : Int) (ds : List D), RowOk R → R.length + 1001 * (ds.length + 1) ≤ 10000 → Dig c → 0 ≤ many → many ≤ 1001 →
      ∃ r2, (s_set 2 (o2 o_add (p_d (e_var 2)) (p_d (o2 o_mul (p_d (e_lst (l_lst (a_cons (p_d (e_var 3)) a_nil)))) (p_d (e_var 5)))))) [hs y, .fz (.int w), .fz (.lst (dR R)), .fz (dC c), .fz d, .fz (.int many)] = .nx r2 ∧ I ds r2 := by
    intro y R c d many ds hR hl hc m0 m1
    have e1 : repD [dC c] many.toNat = dR (List.replicate many.toNat c) := by
      unfold repD dR
      rw [List.map_replicate]
      induction many.toNat with
      | zero => rfl
      | succ n ih => rw [List.replicate_succ, List.flatten_cons, ih]; rfl
    have e2 : o_mul (.lst [dC c]) (.int many) = some (.lst (dR (List.replicate many.toNat c))) := by
      unfold o_mul
      dsimp only
      rw [if_pos (by refine ⟨by omega, by omega, ?_⟩; simp; unfold SZ; omega), e1]
    have e3 : o_add (.lst (dR R)) (.lst (dR (List.replicate many.toNat c))) = some (.lst (dR (R ++ List.replicate many.toNat c))) := by
      unfold o_add
      dsimp only
      rw [if_pos (by have := hR.1; simp; unfold SZ; omega)]
      simp [dR]
    refine ⟨[hs y, .fz (.int w), .fz (.lst (dR (R ++ List.replicate many.toNat c))), .fz (dC c), .fz d, .fz (.int many)], ?_, y, _, c, _, _, rfl, ⟨by simp; omega, fun z m => ?_⟩, by simp; omega, hc⟩
    · generalize dR (R ++ List.replicate many.toNat c) = X1 at *
      generalize dR (List.replicate many.toNat c) = X2 at *
      simp -implicitDefEqProofs [e2, e3, show (1 : Nat) ≤ SZ by decide]
    · rcases List.mem_append.mp m with m | m
      · exact hR.2 z m
      · rw [(List.mem_replicate.mp m).2]; exact hc
  have mid : ∀ (y : HS) (R : List (List Int)) (c : List Int) (d : D) (s5 : Slot) (ds : List D), RowOk R → R.length + 1001 * (ds.length + 1) ≤ 10000 → Dig c →
      ∃ r2, ((s_seq (s_set 5 (o2 o_add (p_d (e_c (.int 1))) (p_d (e_call M_law_take (a_cons (p_ow 0) (a_cons (p_d (e_c (.int 3))) a_nil))))))
    (s_seq (s_if (t_and (t_bol (o2 o_lt (p_d (e_var 1)) (p_d (e_c (.int 5))))) (t_and (t_bol (o2 o_lt (p_d (os f_len (a_cons (p_d (e_var 2)) a_nil))) (p_d (e_c (.int 600))))) (t_bol (o2 o_eq (p_d (e_call M_law_take (a_cons (p_ow 0) (a_cons (p_d (e_c (.int 20))) a_nil)))) (p_d (e_c (.int 0))))))) (s_set 5 (o2 o_ix (p_d (e_lst (l_lst (a_cons (p_d (e_c (.int 498))) (a_cons (p_d (e_c (.int 499))) (a_cons (p_d (e_c (.int 500))) (a_cons (p_d (e_c (.int 501))) (a_cons (p_d (e_c (.int 502))) (a_cons (p_d (e_c (.int 997))) (a_cons (p_d (e_c (.int 998))) (a_cons (p_d (e_c (.int 999))) (a_cons (p_d (e_c (.int 1000))) (a_cons (p_d (e_c (.int 1001))) a_nil))))))))))))) (p_d (e_call M_law_take (a_cons (p_ow 0) (a_cons (p_d (e_c (.int 10))) a_nil)))))) s_nil)
    (s_set 2 (o2 o_add (p_d (e_var 2)) (p_d (o2 o_mul (p_d (e_lst (l_lst (a_cons (p_d (e_var 3)) a_nil)))) (p_d (e_var 5))))))))) [hs y, .fz (.int w), .fz (.lst (dR R)), .fz (dC c), .fz d, s5] = .nx r2 ∧ I ds r2 := by
    intro y R c d s5 ds hR hl hc
    have v0 := y.val_nonneg (m := 3) (by decide)
    have v1 := y.val_lt (m := 3) (by decide)
    have t1 := fun (z : HS) => tail z R c d (1 + y.val 3) ds hR hl hc (by omega) (by omega)
    obtain ⟨dd, e4, n, rfl, n0, n1⟩ := ix_val (P := fun d => ∃ n : Int, d = .int n ∧ 0 ≤ n ∧ n ≤ 1001) (l := [.int 498, .int 499, .int 500, .int 501, .int 502, .int 997, .int 998, .int 999, .int 1000, .int 1001]) ((y.next 3).next 20) (m := 10) (by decide) (by decide) (by
      intro d hd
      simp only [List.mem_cons, List.not_mem_nil, or_false] at hd
      rcases hd with rfl | rfl | rfl | rfl | rfl | rfl | rfl | rfl | rfl | rfl <;> exact ⟨_, rfl, by decide, by decide⟩)
    have t2 := fun (z : HS) => tail z R c d n ds hR hl hc n0 n1
    generalize (s_set 2 (o2 o_add (p_d (e_var 2)) (p_d (o2 o_mul (p_d (e_lst (l_lst (a_cons (p_d (e_var 3)) a_nil)))) (p_d (e_var 5)))))) = bt at *
    have fl : f_len [.lst (dR R)] = some (.int R.length) := by simp [f_len, seqOf]
    by_cases h1 : w < 5
    · by_cases h2 : (R.length : Int) < 600
      · by_cases h3 : (y.next 3).val 20 = 0
        · obtain ⟨r2, e, hI⟩ := t2 (((y.next 3).next 20).next 10)
          refine ⟨r2, ?_, hI⟩
          simp -implicitDefEqProofs [take_hs, o_add, o_icmp, o_eq, h1, h2, h3, fl, e4, show (10 : Nat) ≤ SZ by decide, e]
        · obtain ⟨r2, e, hI⟩ := t1 (((y.next 3).next 20))
          refine ⟨r2, ?_, hI⟩
          simp -implicitDefEqProofs [take_hs, o_add, o_icmp, o_eq, h1, h2, h3, fl, e4, show (10 : Nat) ≤ SZ by decide, e]
      · obtain ⟨r2, e, hI⟩ := t1 (y.next 3)
        refine ⟨r2, ?_, hI⟩
        simp -implicitDefEqProofs [take_hs, o_add, o_icmp, o_eq, h1, h2, fl, e]
    · obtain ⟨r2, e, hI⟩ := t1 (y.next 3)
      refine ⟨r2, ?_, hI⟩
      simp -implicitDefEqProofs [take_hs, o_add, o_icmp, o_eq, h1, fl, e]
  have L1 := forD_inv (gb := g_name 4) (b := bodyR) I (fun d ds r ⟨y, R, c, s4, s5, hr, hR, hl, hc⟩ => by
    subst hr
    refine ⟨[hs y, .fz (.int w), .fz (.lst (dR R)), .fz (dC c), .fz d, s5], ?_⟩
    simp only [List.length_cons] at hl
    obtain ⟨vs, z, lv, hv, ev⟩ := some_hs (y.next 4) w 3 (by decide) (by decide) (by omega) (by omega)
    have hcv : Dig vs := ⟨by omega, hv⟩
    have ht : f_tuple [.lst (vs.map D.int)] = some (dC vs) := rfl
    by_cases h : 0 < y.val 4
    · obtain ⟨r2, e, hI⟩ := mid z R vs d s5 ds hR hl hcv
      refine ⟨r2, rfl, .inl ?_, hI⟩
      unfold bodyR
      rw [x_seq]
      generalize (s_seq (s_set 5 _) _) = bt at *
      simp -implicitDefEqProofs [take_hs, o_icmp, h, ev, ht, e]
    · obtain ⟨r2, e, hI⟩ := mid (y.next 4) R c d s5 ds hR hl hc
      refine ⟨r2, rfl, .inl ?_, hI⟩
      unfold bodyR
      rw [x_seq]
      generalize (s_seq (s_set 5 _) _) = bt at *
      simp -implicitDefEqProofs [take_hs, o_icmp, h, e])
  have v0 := x.val_nonneg (m := 9) (by decide)
  have v1 := x.val_lt (m := 9) (by decide)
  have i1 : inRng (x.val 9) = true := by simp [inRng]; omega
  have l1 : (rngD 0 (x.val 9)).length ≤ 8 := by rw [rng_len]; omega
  obtain ⟨r', e1, y, R, c, s4, s5, rfl, hR, _, _⟩ := L1 (rngD 0 (x.val 9)) [hs (x.next 9), .fz (.int w), .fz (.lst (dR [])), .fz (dC (List.replicate w.toNat 0)), .un, .un] ⟨_, _, _, _, _, rfl, ⟨by simp, fun c m => by cases m⟩, by simp; omega, ⟨by simp; omega, fun v m => by rw [(List.mem_replicate.mp m).2]; decide⟩⟩
  refine ⟨R, y, hR, ?_⟩
  have e2 : o_mul (.lst [.int 0]) (.int w) = some (.lst (List.replicate w.toNat (.int 0))) := by
    unfold o_mul
    dsimp only
    rw [if_pos (by refine ⟨by omega, by omega, ?_⟩; simp; unfold SZ; omega)]
    unfold repD
    congr 2
    induction w.toNat with
    | zero => rfl
    | succ n ih => rw [List.replicate_succ, List.flatten_cons, ih]; rfl
  have e3 : f_tuple [.lst (List.replicate w.toNat (.int 0))] = some (dC (List.replicate w.toNat 0)) := by
    show some (D.tup (List.replicate w.toNat (.int 0))) = _
    simp [dC, List.map_replicate]
  simp only [dR, List.map_nil] at e1
  have unf : B_law_row = (s_seq (s_set 2 (e_lst (l_lst a_nil))) (s_seq (s_set 3 (os f_tuple (a_cons (p_d (o2 o_mul (p_d (e_lst (l_lst (a_cons (p_d (e_c (.int 0))) a_nil)))) (p_d (e_var 1)))) a_nil))) (s_seq (s_for (i_rng1 (a_cons (p_d (e_call M_law_take (a_cons (p_ow 0) (a_cons (p_d (e_c (.int 9))) a_nil)))) a_nil)) (g_name 4) bodyR) (s_ret (e_var 2))))) := rfl
  simp -implicitDefEqProofs [unf, take_hs, i1, e1, e2, e3, SZ]
end Gk
set_option linter.all false
set_option maxRecDepth 100000
set_option maxHeartbeats 4000000
namespace Gk
open PySem L2 Ml
theorem RT_len {R : List (List Int)} (h : RowOk R) : (RT R).length ≤ 2000000 := by
  have h1 := wrs_props h
  have h2 : WL 20000 ((wrs R).map .str) := ⟨by have := h.1; simp; omega, fun d m => by
    obtain ⟨t, mt, rfl⟩ := List.mem_map.mp m
    exact ⟨t, rfl, h1.2 t mt⟩⟩
  obtain ⟨t, e, l⟩ := join_WL h2 (by decide)
  rw [tD h] at e
  cases e
  omega
theorem sub_sum {us ts : List Str} (h : us.Sublist ts) : (us.map (·.length)).sum ≤ (ts.map (·.length)).sum := by
  induction h with
  | slnil => exact Nat.le_refl _
  | cons a _ ih => simp; omega
  | cons_cons a _ ih => simp; omega
theorem cut_strs (ts : List Str) (lo hi : Option Int) : ∃ us : List Str, cutD (ts.map D.str) lo hi = us.map D.str ∧ us.length ≤ ts.length ∧ (us.map (·.length)).sum ≤ (ts.map (·.length)).sum := by
  unfold cutD
  generalize HT.sIx (ts.map D.str).length 0 lo = a
  generalize HT.sIx (ts.map D.str).length (ts.map D.str).length hi = b
  have h : ((ts.drop a).take (b - a)).Sublist ts := (List.take_sublist _ _).trans (List.drop_sublist _ _)
  exact ⟨(ts.drop a).take (b - a), by simp, h.length_le, sub_sum h⟩
theorem join_strs {ts : List Str} (h : (ts.map (·.length)).sum + ts.length ≤ 5000000) : ∃ t : Str, f_join " " [.lst (ts.map .str)] = some (.str t) ∧ t.length ≤ 5000000 := by
  have e1 : (" " : Str).length = 1 := by decide +kernel
  refine ⟨Txt.join " " ts, ?_, ?_⟩
  · unfold f_join
    simp only [seqOf, strsOf_map]
    rw [if_pos (by rw [e1]; omega)]
  · rw [TL.join_eq]
    have := PySem.StrLaws.join_length_le " " ts
    rw [e1] at this
    omega
theorem text_hs (x : HS) (w : Int) (w0 : 0 ≤ w) (w1 : w ≤ 30) (R : List (List Int)) (hR : RowOk R) : FP (M_law_text [hs x, .fz (.int w), .fz (.lst (dR R))]) (TH 5000000 2) := by
  unfold M_law_text
  rw [defM_run (io := [0]) (np := 3) (nl := 4) (body := B_law_text) rfl rfl]
  generalize hX : dR R = X
  have hW := written_ok hR
  rw [hX] at hW
  have lR := RT_len hR
  -- way 0
  have a0 := (x.next 6).val_nonneg (m := 41) (by decide)
  have a1 := (x.next 6).val_lt (m := 41) (by decide)
  have a2 : inRng ((x.next 6).val 41) = true := by simp [inRng]; omega
  have a3 : (rngD 0 ((x.next 6).val 41)).length ≤ 40 := by rw [rng_len]; omega
  have A := lcD_inv (vs := [6]) (gb := g_name 6) (te := e_call M_law_sign (a_cons (p_ow 0) a_nil))
    (fun _ r => ∃ (y : HS) (s : Slot), r = [hs y, .fz (.int w), .fz (.lst X), .fz (.int (x.val 6)), .un, .un, s]) (fun _ y => ∃ t : Str, y = .str t ∧ t.length ≤ 50)
    (fun d ds r ⟨y, s, hr⟩ => by
      subst hr
      obtain ⟨s3, o3, e3, t3, y3, rfl, l3, rfl⟩ := sign_hs y
      refine ⟨_, .str t3, [hs y3, .fz (.int w), .fz (.lst X), .fz (.int (x.val 6)), .un, .un, .fz d], rfl, ?_, ⟨t3, rfl, by omega⟩, y3, _, rfl⟩
      simp -implicitDefEqProofs [wipeR, e3]) (rngD 0 ((x.next 6).val 41)) [] [hs ((x.next 6).next 41), .fz (.int w), .fz (.lst X), .fz (.int (x.val 6)), .un, .un, .un] (by simp [SZ]; omega) ⟨_, _, rfl⟩
  obtain ⟨vs, r2, e2, hl2, hP, y2, s2, rfl⟩ := A
  have hv : WL 40 vs := ⟨by omega, fun d md => by
    obtain ⟨i, hi, ei⟩ := List.getElem_of_mem md
    have hi' : i < (rngD 0 ((x.next 6).val 41)).length := by omega
    exact hP i _ d (List.getElem?_eq_getElem hi') (by rw [List.getElem?_eq_getElem hi, ei])⟩
  obtain ⟨ts, rfl, t1, t2⟩ := hv.strs
  have A5 : f_join "" [.lst (ts.map .str)] = some (.str (Txt.join "" ts)) := by
    unfold f_join
    simp only [seqOf, strsOf_map]
    have e : ("" : Str).length = 0 := by decide +kernel
    have s := sum_le t2
    rw [if_pos (by rw [e]; omega)]
  have A6 : (Txt.join "" ts).length ≤ 5000000 := by rw [join_len]; have := sum_le t2; omega
  -- ways 1, 2
  obtain ⟨s3, o3, e3, ws3, y3, rfl, w3, rfl⟩ := nest_hs (x.next 6) w w0 w1
  obtain ⟨j3, f3, g3⟩ := join_WL w3 (by decide)
  obtain ⟨s4, o4, e4, ws4, y4, rfl, w4, rfl⟩ := edge_hs (x.next 6) w w0 w1
  obtain ⟨j4, f4, g4⟩ := join_WL w4 (by decide)
  -- way 3
  have B0 : f_split (RT R) [.str " "] = some (.lst ((Txt.split (RT R) " ").map .str)) := by
    unfold f_split
    dsimp only
    rw [if_pos ⟨by decide +kernel, by unfold SZ; omega⟩]
  have B1 := PyProof.Rows.split_weight (RT R) " " (by decide +kernel)
  generalize Txt.split (RT R) " " = sp at *
  have B2 : f_len [.lst (sp.map .str)] = some (.int sp.length) := by simp [f_len, seqOf]
  generalize hn : (sp.length : Int) + 1 = n at *
  have n0 : 0 < n := by omega
  have n1 : n < 1073741824 := by omega
  have B3 := take_hs (x.next 6) n n0 n1
  obtain ⟨s5, o5, e5, t5, y5, rfl, l5, rfl⟩ := word_hs ((x.next 6).next n) w w0 w1
  obtain ⟨u1, c1, c2, c3⟩ := cut_strs sp none (some ((x.next 6).val n))
  obtain ⟨u2, d1, d2, d3⟩ := cut_strs sp (some ((x.next 6).val n)) none
  obtain ⟨j5, f5, g5⟩ := join_strs (ts := u1 ++ [t5] ++ u2) (by simp; omega)
  have C1 : f_slice (.lst (sp.map .str)) none (some ((x.next 6).val n)) = some (.lst (u1.map .str)) := by rw [← c1]; rfl
  have C2 : f_slice (.lst (sp.map .str)) (some ((x.next 6).val n)) none = some (.lst (u2.map .str)) := by rw [← d1]; rfl
  have C3 : o_add (.lst (u1.map .str)) (.lst [.str t5]) = some (.lst (u1.map .str ++ [.str t5])) := by
    simp only [o_add]; rw [if_pos (by simp; unfold SZ; omega)]
  have C4 : o_add (.lst (u1.map .str ++ [.str t5])) (.lst (u2.map .str)) = some (.lst ((u1 ++ [t5] ++ u2).map .str)) := by
    simp only [o_add]; rw [if_pos (by simp; unfold SZ; omega)]; simp
  -- other ways
  have p0 := (x.next 6).val_nonneg (m := 12) (by decide)
  have p1 := (x.next 6).val_lt (m := 12) (by decide)
  have p2 : inRng ((x.next 6).val 12) = true := by simp [inRng]; omega
  have p3 : (rngD 0 ((x.next 6).val 12)).length ≤ 11 := by rw [rng_len]; omega
  have A := lcD_inv (vs := [6]) (gb := g_name 6) (te := e_call M_law_word (a_cons (p_ow 0) (a_cons (p_d (e_var 1)) a_nil)))
    (fun _ r => ∃ (y : HS) (s : Slot), r = [hs y, .fz (.int w), .fz (.lst X), .fz (.int (x.val 6)), .un, .un, s]) (fun _ y => ∃ t : Str, y = .str t ∧ t.length ≤ 50)
    (fun d ds r ⟨y, s, hr⟩ => by
      subst hr
      obtain ⟨s3, o3, e3, t3, y3, rfl, l3, rfl⟩ := word_hs y w w0 w1
      refine ⟨_, .str t3, [hs y3, .fz (.int w), .fz (.lst X), .fz (.int (x.val 6)), .un, .un, .fz d], rfl, ?_, ⟨t3, rfl, by omega⟩, y3, _, rfl⟩
      simp -implicitDefEqProofs [wipeR, e3]) (rngD 0 ((x.next 6).val 12)) [] [hs ((x.next 6).next 12), .fz (.int w), .fz (.lst X), .fz (.int (x.val 6)), .un, .un, .un] (by simp [SZ]; omega) ⟨_, _, rfl⟩
  obtain ⟨vs6, r6, e6, hl6, hP6, y6, s6, rfl⟩ := A
  have hv6 : WL 40 vs6 := ⟨by omega, fun d md => by
    obtain ⟨i, hi, ei⟩ := List.getElem_of_mem md
    have hi' : i < (rngD 0 ((x.next 6).val 12)).length := by omega
    exact hP6 i _ d (List.getElem?_eq_getElem hi') (by rw [List.getElem?_eq_getElem hi, ei])⟩
  obtain ⟨j6, f6, g6⟩ := join_WL hv6 (by decide)
  simp -implicitDefEqProofs only [List.nil_append] at e2 e6
  have D1 : ∀ i : Int, o_add (.int i) (.int 1) = some (.int (i + 1)) := fun _ => rfl
  generalize (u1 ++ [t5] ++ u2).map D.str = U at *
  generalize u1.map D.str ++ [D.str t5] = U1 at *
  generalize u1.map D.str = U2 at *
  generalize u2.map D.str = U3 at *
  generalize sp.map D.str = SP at *
  generalize ts.map D.str = TS at *
  simp -implicitDefEqProofs [B_law_text, take_hs, a2, e2, A5, A6, p2, e6, f6, e3, f3, e4, f4, hW, B0, B2, hn, B3, e5, C1, C2, C3, C4, f5, g5, o_eq, D1, ksi_ite, thn_ite, outD_ite, FP_ite, FP_ret, hs_inj, TH, show j3.length ≤ 5000000 by omega, show j4.length ≤ 5000000 by omega, show j6.length ≤ 5000000 by omega]
end Gk
set_option linter.all false
set_option maxRecDepth 100000
set_option maxHeartbeats 4000000
namespace Gk
open PySem L2 Ml
/-- the signs of a text -/
abbrev cl (w : Str) : List Nat := w.cps.toList
def mkS (l : List Nat) : Str := ⟨l.toArray⟩
theorem mkS_cl (w : Str) : mkS (cl w) = w := by cases w; simp [mkS]
theorem cl_mkS (l : List Nat) : cl (mkS l) = l := by simp [mkS]
theorem cl_len (w : Str) : (cl w).length = w.length := by simp [Str.length]
theorem star_eq : ("*" : Str) = ⟨#[42]⟩ := by decide +kernel
theorem sub_eq (w : Str) (i j : Nat) : Builtin.Str.strSub w i j = mkS (((cl w).drop i).take (j - i)) := by
  unfold Builtin.Str.strSub mkS
  congr 1
  rw [← Array.toList_inj]
  simp [Array.toList_extract, List.extract]
/-- where the first star stands -/
theorem star_cases (w : Str) : (42 ∉ cl w ∧ Txt.find w "*" = -1) ∨ ∃ a b : List Nat, cl w = a ++ 42 :: b ∧ 42 ∉ a ∧ Txt.find w "*" = (a.length : Int) ∧ Txt.partition w "*" = (mkS a, ("*" : Str), mkS b) := by
  rcases PyProof.Rows.find_whole w "*" with ⟨h1, h2⟩ | ⟨i, h1, h2, h3⟩
  · refine .inl ⟨fun m => ?_, h1⟩
    rw [star_eq] at h2
    obtain ⟨i, hi⟩ := (PyProof.Rows.mem_iff_at w 42).mp m
    exact h2 i hi
  · have hp : Txt.partition w "*" = (Builtin.Str.strSub w 0 i, ("*" : Str), Builtin.Str.strSub w (i + ("*" : Str).length) w.length) := by
      rcases PyProof.Rows.partition_whole w "*" with ⟨k1, k2⟩ | ⟨k, k1, k2, k3⟩
      · exact absurd h2 (k2 i)
      · have : i = k := by
          rcases Nat.lt_trichotomy i k with l | l | l
          · exact absurd h2 (k3 i l)
          · exact l
          · exact absurd k2 (h3 k l)
        rw [this]; exact k1
    have e1 : ("*" : Str).length = 1 := by decide +kernel
    rw [e1, sub_eq, sub_eq] at hp
    rw [star_eq] at h2 h3
    have hi := (PySem.StrLaws.subAt_one w 42 i).mp h2
    have hn : ∀ k, k < i → (cl w)[k]? ≠ some 42 := fun k hk e => h3 k hk ((PySem.StrLaws.subAt_one w 42 k).mpr e)
    obtain ⟨hl, hg⟩ := List.getElem?_eq_some_iff.mp hi
    have hl' : i < (cl w).length := hl
    have sp : cl w = (cl w).take i ++ 42 :: (cl w).drop (i + 1) := by
      conv => lhs; rw [← List.take_append_drop i (cl w)]
      rw [List.drop_eq_getElem_cons hl', hg]
    refine .inr ⟨(cl w).take i, (cl w).drop (i + 1), sp, fun m => ?_, ?_, ?_⟩
    · obtain ⟨k, hk, e⟩ := List.getElem_of_mem m
      have hk2 : k < i ∧ k < (cl w).length := by
        rw [List.length_take] at hk; omega
      refine hn k hk2.1 ?_
      rw [List.getElem?_eq_getElem hk2.2, ← e, List.getElem_take]
    · rw [h1, List.length_take]; congr 1; omega
    · rw [hp]
      congr 2
      rw [← cl_len, List.take_of_length_le]
      simp
theorem slice_to {w : Str} {a b : List Nat} (h : cl w = a ++ 42 :: b) (hz : w.length ≤ SZ) : f_slice (.str w) none (some (a.length : Int)) = some (.str (mkS a)) := by
  have hl : w.length = a.length + (b.length + 1) := by rw [← cl_len, h]; simp
  simp only [f_slice, if_pos hz, L2.cutS, HT.sIx_none, HT.sIx_nat]
  rw [show min a.length w.length = a.length by omega]
  simp [mkS, h]
theorem slice_from {w : Str} {a b : List Nat} (h : cl w = a ++ 42 :: b) (hz : w.length ≤ SZ) : f_slice (.str w) (some ((a.length : Int) + 1)) none = some (.str (mkS b)) := by
  have hl : w.length = a.length + (b.length + 1) := by rw [← cl_len, h]; simp
  have e : ((a.length : Int) + 1) = ((a.length + 1 : Nat) : Int) := by omega
  rw [e]
  simp only [f_slice, if_pos hz, L2.cutS, HT.sIx_none, HT.sIx_nat]
  rw [show min (a.length + 1) w.length = a.length + 1 by omega, hl]
  have : (a ++ 42 :: b).drop (a.length + 1) = b := by
    rw [← List.drop_drop]; simp
  have h' : w.cps.toList = a ++ 42 :: b := h
  rw [h', this, List.take_of_length_le (by omega)]
  rfl
theorem slice_all {w : Str} (hz : w.length ≤ SZ) : f_slice (.str w) (some (0 : Int)) none = some (.str w) := by
  have e : (0 : Int) = ((0 : Nat) : Int) := rfl
  rw [e]
  simp only [f_slice, if_pos hz, L2.cutS, HT.sIx_none, HT.sIx_nat]
  rw [show min 0 w.length = 0 by omega]
  have : w.cps.toList.length = w.length := cl_len w
  simp [List.take_of_length_le, this]
theorem it_ok : ∀ a < 10, ∀ b < 10, ∀ c < 10, PySem.intText? (mkS [48 + a]) = some (a : Int) ∧ PySem.intText? (mkS [48 + a, 48 + b]) = some ((10 * a + b : Nat) : Int) ∧ PySem.intText? (mkS [48 + a, 48 + b, 48 + c]) = some ((100 * a + 10 * b + c : Nat) : Int) := by decide +kernel
end Gk
set_option linter.all false
set_option maxRecDepth 100000
set_option maxHeartbeats 4000000
namespace Gk
open PySem L2 Ml
abbrev sg (c : Nat) : D := .str ⟨#[c]⟩
def loopN (i : Nat) (lit : Str) (d : D) : SM := (s_if (t_bol (o2 o_nin (p_d (e_var i)) (p_d (e_c (.str lit))))) (s_ret (e_c d)) s_nil)
theorem nin_sg (c : Nat) (lit : Str) : o_nin (sg c) (.str lit) = some (.bl (!decide (c ∈ cl lit))) := rfl
theorem nin_step (i : Nat) (lit : Str) (d : D) (c : Nat) (r : Rho) (hi : i < r.length) : loopN i lit d (r.set i (.fz (sg c))) = if c ∈ cl lit then .nx (r.set i (.fz (sg c))) else .rt (.fz d) (r.set i (.fz (sg c))) := by
  have e : (r.set i (.fz (sg c)))[i]? = some (.fz (sg c)) := List.getElem?_set_self hi
  have e2 := nin_sg c lit
  by_cases h : c ∈ cl lit
  · simp -implicitDefEqProofs only [loopN, x_if, x_tbol, x_o2, x_pd, x_var, x_c, e, kvar_fz, bind_ok, kpd_eq, k2a_eq, k2b_eq, res_d, k2m_some, e2, h, decide_true, Bool.not_true, opt_some, ktb_bl, seq_ok, ksi_f, x_nil, if_true]
  · simp -implicitDefEqProofs only [loopN, x_if, x_tbol, x_o2, x_pd, x_var, x_c, e, kvar_fz, bind_ok, kpd_eq, k2a_eq, k2b_eq, res_d, k2m_some, e2, h, decide_false, Bool.not_false, opt_some, ktb_bl, seq_ok, ksi_t, x_ret, kret_eq, if_false]
theorem nin_all (i : Nat) (lit : Str) (d : D) : ∀ (l : List Nat) (r : Rho), i < r.length → (∀ c ∈ l, c ∈ cl lit) → ∃ s, forD (g_name i) (loopN i lit d) (l.map sg) r = .nx (r.set i s) ∧ (r[i]? = some s ∨ ∃ d, s = .fz d)
  | [], r, hi, _ => ⟨r[i], by rw [List.set_getElem_self]; rfl, .inl (List.getElem?_eq_getElem hi)⟩
  | c :: l, r, hi, h => by
    obtain ⟨s, e, k⟩ := nin_all i lit d l (r.set i (.fz (sg c))) (by simpa using hi) (fun x m => h x (List.mem_cons_of_mem _ m))
    refine ⟨s, ?_, ?_⟩
    · rw [List.map_cons]
      unfold forD
      simp only [g_name, nin_step i lit d c r hi, if_pos (h c List.mem_cons_self)]
      rw [e, List.set_set]
    · rcases k with k | k
      · rw [List.getElem?_set_self hi] at k; cases k; exact .inr ⟨_, rfl⟩
      · exact .inr k
theorem nin_some (i : Nat) (lit : Str) (d : D) : ∀ (l : List Nat) (r : Rho), i < r.length → ¬ (∀ c ∈ l, c ∈ cl lit) → ∃ s, forD (g_name i) (loopN i lit d) (l.map sg) r = .rt (.fz d) (r.set i s)
  | [], r, hi, h => absurd (fun c m => by cases m) h
  | c :: l, r, hi, h => by
    rw [List.map_cons]
    unfold forD
    simp only [g_name, nin_step i lit d c r hi]
    by_cases hc : c ∈ cl lit
    · rw [if_pos hc]
      obtain ⟨s, e⟩ := nin_some i lit d l (r.set i (.fz (sg c))) (by simpa using hi) (fun z => h fun x m => by
        rcases List.mem_cons.mp m with rfl | m
        · exact hc
        · exact z x m)
      refine ⟨s, ?_⟩
      dsimp only
      rw [e, List.set_set]
    · rw [if_neg hc]
      exact ⟨_, rfl⟩
instance (l : List Nat) (lit : Str) : Decidable (∀ c ∈ l, c ∈ cl lit) := inferInstance
/-- the number that a word's head writes, 0 if it is wrong -/
def numOf (l : List Nat) : Int := if l.length = 0 ∨ 3 < l.length ∨ l[0]? = some 48 ∨ ¬ (∀ c ∈ l, c ∈ cl "0123456789") then 0 else (PySem.intText? (mkS l)).getD 0
theorem dig_cl : cl "0123456789" = [48, 49, 50, 51, 52, 53, 54, 55, 56, 57] := by decide +kernel
theorem dig_mem {c : Nat} (h : c ∈ cl "0123456789") : ∃ a, a < 10 ∧ c = 48 + a := by
  rw [dig_cl] at h
  simp only [List.mem_cons, List.not_mem_nil, or_false] at h
  exact ⟨c - 48, by omega, by omega⟩
theorem int_dig {l : List Nat} (h1 : l.length ≠ 0) (h3 : l.length ≤ 3) (hd : ∀ c ∈ l, c ∈ cl "0123456789") : ∃ n : Int, PySem.intText? (mkS l) = some n ∧ 0 ≤ n ∧ n ≤ 999 := by
  match l, h1, h3, hd with
  | [], h, _, _ => exact absurd rfl h
  | [x], _, _, hd =>
    obtain ⟨a, ha, rfl⟩ := dig_mem (hd x (by simp))
    exact ⟨_, (it_ok a ha 0 (by decide) 0 (by decide)).1, by omega, by omega⟩
  | [x, y], _, _, hd =>
    obtain ⟨a, ha, rfl⟩ := dig_mem (hd x (by simp))
    obtain ⟨b, hb, rfl⟩ := dig_mem (hd y (by simp))
    exact ⟨_, (it_ok a ha b hb 0 (by decide)).2.1, by omega, by omega⟩
  | [x, y, z], _, _, hd =>
    obtain ⟨a, ha, rfl⟩ := dig_mem (hd x (by simp))
    obtain ⟨b, hb, rfl⟩ := dig_mem (hd y (by simp))
    obtain ⟨c, hc, rfl⟩ := dig_mem (hd z (by simp))
    exact ⟨_, (it_ok a ha b hb c hc).2.2, by omega, by omega⟩
  | _ :: _ :: _ :: _ :: _, _, h, _ => simp at h
theorem numOf_range (l : List Nat) : 0 ≤ numOf l ∧ numOf l ≤ 999 := by
  unfold numOf
  split
  · omega
  · rename_i h
    have h' : l.length ≠ 0 ∧ l.length ≤ 3 ∧ ∀ c ∈ l, c ∈ cl "0123456789" := by
      refine ⟨fun z => h (.inl z), ?_, ?_⟩
      · rcases Nat.lt_or_ge 3 l.length with z | z
        · exact absurd (.inr (.inl z)) h
        · exact z
      · by_cases z : ∀ c ∈ l, c ∈ cl "0123456789"
        · exact z
        · exact absurd (.inr (.inr (.inr z))) h
    obtain ⟨n, e, n0, n1⟩ := int_dig h'.1 h'.2.1 h'.2.2
    rw [e]; exact ⟨n0, n1⟩
theorem f_int_dig {l : List Nat} (h1 : l.length ≠ 0) (h3 : l.length ≤ 3) (hd : ∀ c ∈ l, c ∈ cl "0123456789") : f_int [.str (mkS l)] = some (.int ((PySem.intText? (mkS l)).getD 0)) := by
  obtain ⟨n, e, n0, n1⟩ := int_dig h1 h3 hd
  have hl : (mkS l).length ≤ 640 := by
    show l.toArray.size ≤ 640
    simp; omega
  unfold f_int
  simp only [e, if_pos hl]
  rfl
theorem ix0 {c : Nat} {l : List Nat} (hz : (mkS (c :: l)).length ≤ SZ) : o_ix (.str (mkS (c :: l))) (.int 0) = some (sg c) := by
  simp only [o_ix, if_pos hz]
  simp [L2.atI, L2.ixN, mkS]
theorem zero_cl : ("0" : Str) = ⟨#[48]⟩ := by decide +kernel
theorem eq_sg (c d : Nat) : o_eq (sg c) (sg d) = some (.bl (decide (c = d))) := by
  unfold o_eq
  simp
theorem count_ok {l : List Nat} (hz : l.length ≤ SZ) : M_law_count [.fz (.str (mkS l))] = .ret (.fz (.int (numOf l))) [.un] := by
  unfold M_law_count
  rw [defM_run (io := []) (np := 1) (nl := 1) (body := B_law_count) rfl rfl]
  have hz' : (mkS l).length ≤ SZ := by show l.toArray.size ≤ SZ; simpa using hz
  have fl : f_len [.str (mkS l)] = some (.int l.length) := by
    have : (mkS l).length = l.length := by show l.toArray.size = _; simp
    simp only [f_len, if_pos hz', this]; rw [if_pos hz]
  have hs : sgnD (mkS l) = l.map sg := by simp [sgnD, mkS]
  have unf : B_law_count = (s_seq (s_if (t_or (t_bol (o2 o_lt (p_d (os f_len (a_cons (p_d (e_var 0)) a_nil))) (p_d (e_c (.int 1))))) (t_or (t_bol (o2 o_gt (p_d (os f_len (a_cons (p_d (e_var 0)) a_nil))) (p_d (e_c (.int 3))))) (t_bol (o2 o_eq (p_d (o2 o_ix (p_d (e_var 0)) (p_d (e_c (.int 0))))) (p_d (e_c (.str "0"))))))) (s_ret (e_c (.int 0))) s_nil)
    (s_seq (s_for (i_any (e_var 0)) (g_name 1) (loopN 1 "0123456789" (.int 0)))
    (s_ret (os f_int (a_cons (p_d (e_var 0)) a_nil))))) := rfl
  rw [unf]
  generalize hB : loopN 1 "0123456789" (.int 0) = B
  cases l with
  | nil => simp -implicitDefEqProofs [fl, o_icmp, numOf]
  | cons c l =>
    by_cases h3 : 3 < (c :: l).length
    · have h3' : (3 : Int) < ((c :: l).length : Nat) := by omega
      have h1' : ¬ (((c :: l).length : Nat) : Int) < 1 := by omega
      have e : numOf (c :: l) = 0 := by unfold numOf; rw [if_pos (.inr (.inl h3))]
      generalize (((c :: l).length : Nat) : Int) = N at *
      simp -implicitDefEqProofs [fl, o_icmp, e, h3', h1']
    · have h3' : ¬ (3 : Int) < ((c :: l).length : Nat) := by omega
      have h1' : ¬ (((c :: l).length : Nat) : Int) < 1 := by simp; omega
      have e0 := ix0 hz'
      have e1 := eq_sg c 48
      by_cases h0 : c = 48
      · have e : numOf (c :: l) = 0 := by unfold numOf; rw [if_pos (.inr (.inr (.inl (by rw [h0]; rfl))))]
        generalize (((c :: l).length : Nat) : Int) = N at *
        generalize numOf (c :: l) = NO at *
        generalize mkS (c :: l) = w at *
        have e1' : o_eq (sg c) (sg 48) = some (.bl true) := by rw [e1, h0]; rfl
        simp -implicitDefEqProofs [fl, o_icmp, e, h3', h1', e0, zero_cl, e1']
      · by_cases hd : ∀ x ∈ c :: l, x ∈ cl "0123456789"
        · have e : numOf (c :: l) = (PySem.intText? (mkS (c :: l))).getD 0 := by
            unfold numOf; rw [if_neg]; rintro (z | z | z | z)
            · simp at z
            · exact h3 z
            · simp at z; exact h0 z
            · exact z hd
          have e2 := f_int_dig (l := c :: l) (by simp) (by omega) hd
          obtain ⟨s, e3, _⟩ := nin_all 1 "0123456789" (.int 0) (c :: l) [.fz (.str (mkS (c :: l))), .un] (by simp) hd
          rw [hB, ← hs] at e3
          generalize (((c :: l).length : Nat) : Int) = N at *
          generalize mkS (c :: l) = w at *
          simp -implicitDefEqProofs [fl, o_icmp, e, h3', h1', e0, zero_cl, e1, h0, e3, e2]
        · have e : numOf (c :: l) = 0 := by unfold numOf; rw [if_pos (.inr (.inr (.inr hd)))]
          obtain ⟨s, e3⟩ := nin_some 1 "0123456789" (.int 0) (c :: l) [.fz (.str (mkS (c :: l))), .un] (by simp) hd
          rw [hB, ← hs] at e3
          generalize (((c :: l).length : Nat) : Int) = N at *
          generalize mkS (c :: l) = w at *
          simp -implicitDefEqProofs [fl, o_icmp, e, h3', h1', e0, zero_cl, e1, h0, e3]
end Gk
set_option linter.all false
set_option maxRecDepth 100000
set_option maxHeartbeats 4000000
namespace Gk
open PySem L2 Ml
/-- what number_of hands back -/
def NumD (l : List Nat) (d : D) : Prop := (d = .non ∧ numOf l = 0) ∨ d = .int (numOf l)
theorem number_of_ok {l : List Nat} (hz : l.length ≤ SZ) : ∃ d, NumD l d ∧ M_number_of [.fz (.str (mkS l))] = .ret (.fz d) [.un] := by
  unfold M_number_of
  rw [defM_run (io := []) (np := 1) (nl := 1) (body := B_number_of) rfl rfl]
  have hz' : (mkS l).length ≤ SZ := by show l.toArray.size ≤ SZ; simpa using hz
  have fl : f_len [.str (mkS l)] = some (.int l.length) := by
    have : (mkS l).length = l.length := by show l.toArray.size = _; simp
    simp only [f_len, if_pos hz', this]; rw [if_pos hz]
  have hs : sgnD (mkS l) = l.map sg := by simp [sgnD, mkS]
  have unf : B_number_of = (s_seq (s_if (t_or (t_not (t_bol (e_chain o_le o_le (p_d (e_c (.int 1))) (p_d (os f_len (a_cons (p_d (e_var 0)) a_nil))) (p_d (e_c (.int 3)))))) (t_and (t_bol (o2 o_eq (p_d (o2 o_ix (p_d (e_var 0)) (p_d (e_c (.int 0))))) (p_d (e_c (.str "0"))))) (t_bol (o2 o_ne (p_d (e_var 0)) (p_d (e_c (.str "0"))))))) (s_ret (e_c .non)) s_nil)
    (s_seq (s_for (i_any (e_var 0)) (g_name 1) (loopN 1 "0123456789" .non))
    (s_ret (os f_int (a_cons (p_d (e_var 0)) a_nil))))) := rfl
  rw [unf]
  generalize hB : loopN 1 "0123456789" .non = B
  have hne : ∀ w : Str, o_ne (.str w) (.str ⟨#[48]⟩) = some (.bl (!decide (w = ⟨#[48]⟩))) := fun w => by simp [o_ne, o_eq]
  cases l with
  | nil => exact ⟨.non, .inl ⟨rfl, rfl⟩, by simp -implicitDefEqProofs [fl, o_icmp]⟩
  | cons c l =>
    by_cases h3 : 3 < (c :: l).length
    · have h3' : ¬ (((c :: l).length : Nat) : Int) ≤ 3 := by omega
      have h1' : (1 : Int) ≤ ((c :: l).length : Nat) := by simp; omega
      have e : numOf (c :: l) = 0 := by unfold numOf; rw [if_pos (.inr (.inl h3))]
      refine ⟨.non, .inl ⟨rfl, e⟩, ?_⟩
      generalize (((c :: l).length : Nat) : Int) = N at *
      simp -implicitDefEqProofs [fl, o_icmp, h3', h1']
    · have h3' : (((c :: l).length : Nat) : Int) ≤ 3 := by omega
      have h1' : (1 : Int) ≤ ((c :: l).length : Nat) := by simp; omega
      have e0 := ix0 hz'
      have e1 := eq_sg c 48
      have ev := fun (hd : ∀ x ∈ c :: l, x ∈ cl "0123456789") => f_int_dig (l := c :: l) (by simp) (by omega) hd
      have ea := fun (hd : ∀ x ∈ c :: l, x ∈ cl "0123456789") => nin_all 1 "0123456789" .non (c :: l) [.fz (.str (mkS (c :: l))), .un] (by simp) hd
      have es := fun (hd : ¬ ∀ x ∈ c :: l, x ∈ cl "0123456789") => nin_some 1 "0123456789" .non (c :: l) [.fz (.str (mkS (c :: l))), .un] (by simp) hd
      rw [hB, ← hs] at ea es
      by_cases h0 : c = 48
      · have e : numOf (c :: l) = 0 := by unfold numOf; rw [if_pos (.inr (.inr (.inl (by rw [h0]; rfl))))]
        have e1' : o_eq (sg c) (sg 48) = some (.bl true) := by rw [e1, h0]; rfl
        by_cases hw : l = []
        · subst hw h0
          have hd : ∀ x ∈ [48], x ∈ cl "0123456789" := by rw [dig_cl]; decide
          obtain ⟨s, e3, _⟩ := ea hd
          have e2 := ev hd
          have e5 := (it_ok 0 (by decide) 0 (by decide) 0 (by decide)).1
          rw [show [48 + 0] = [48] from rfl] at e5
          rw [e5] at e2
          refine ⟨.int 0, .inr (by rw [e]), ?_⟩
          have hw2 : mkS [48] = ⟨#[48]⟩ := rfl
          have hn : o_ne (.str (mkS [48])) (.str ⟨#[48]⟩) = some (.bl false) := by rw [hne, hw2]; simp
          have e2' : f_int [.str (mkS [48])] = some (.int 0) := e2
          clear e2
          generalize ((([48] : List Nat).length : Nat) : Int) = N at *
          generalize mkS [48] = w at *
          simp -implicitDefEqProofs [fl, o_icmp, h3', h1', e0, zero_cl, e1', hn, e3, e2']
        · refine ⟨.non, .inl ⟨rfl, e⟩, ?_⟩
          have hw2 : mkS (c :: l) ≠ ⟨#[48]⟩ := fun z => by
            have := congrArg cl z
            rw [cl_mkS] at this
            cases this
            exact hw rfl
          have hn := hne (mkS (c :: l))
          generalize (((c :: l).length : Nat) : Int) = N at *
          generalize mkS (c :: l) = w at *
          simp -implicitDefEqProofs [fl, o_icmp, h3', h1', e0, zero_cl, e1', hn, hw2]
      · by_cases hd : ∀ x ∈ c :: l, x ∈ cl "0123456789"
        · have e : numOf (c :: l) = (PySem.intText? (mkS (c :: l))).getD 0 := by
            unfold numOf; rw [if_neg]; rintro (z | z | z | z)
            · simp at z
            · exact h3 z
            · simp at z; exact h0 z
            · exact z hd
          obtain ⟨s, e3, _⟩ := ea hd
          have e2 := ev hd
          refine ⟨_, .inr (by rw [e]), ?_⟩
          generalize (((c :: l).length : Nat) : Int) = N at *
          generalize mkS (c :: l) = w at *
          simp -implicitDefEqProofs [fl, o_icmp, h3', h1', e0, zero_cl, e1, h0, e3, e2]
        · have e : numOf (c :: l) = 0 := by unfold numOf; rw [if_pos (.inr (.inr (.inr hd)))]
          obtain ⟨s, e3⟩ := es hd
          refine ⟨.non, .inl ⟨rfl, e⟩, ?_⟩
          generalize (((c :: l).length : Nat) : Int) = N at *
          generalize mkS (c :: l) = w at *
          simp -implicitDefEqProofs [fl, o_icmp, h3', h1', e0, zero_cl, e1, h0, e3]
/-- the comings that a word writes -/
def toD (l : List Nat) : List Int := l.map fun (c : Nat) => (c : Int) - 48
def digOf (l : List Nat) (w : Int) : Option (List Int) := if (l.length : Int) = w ∧ ∀ c ∈ l, c ∈ cl "012" then some (toD l) else none
theorem cl012 : cl "012" = [48, 49, 50] := by decide +kernel
theorem mem012 {c : Nat} : c ∈ cl "012" ↔ c = 48 ∨ c = 49 ∨ c = 50 := by
  rw [cl012]; simp
theorem digOf_Dig {l : List Nat} {w : Int} {c : List Int} (hw : w ≤ 30) (h : digOf l w = some c) : Dig c := by
  unfold digOf at h
  split at h
  · rename_i k
    cases h
    refine ⟨by simp [toD]; omega, fun v m => ?_⟩
    obtain ⟨x, mx, rfl⟩ := List.mem_map.mp m
    have := mem012.mp (k.2 x mx)
    omega
  · cases h
def dOpt : Option (List Int) → D
  | some c => dC c
  | none => .non
/-- a comprehension over the signs of a text, by a function -/
theorem lc_sg {i : Nat} {te : EM D} (f : Nat → D) (r : Rho) (hi : i < r.length) (hr : keepFz r[i]? = r[i]) (l : List Nat) (hl : l.length ≤ SZ) (h : ∀ c ∈ l, te (r.set i (.fz (sg c))) = .ok (f c) (r.set i (.fz (sg c)))) : lcD [i] (g_name i) t_yes te (l.map sg) [] r = .ok (l.map f) r := by
  have fe : ∀ l : List Nat, (l.map sg).map (fun d => match d with | .str x => f ((cl x)[0]?.getD 0) | d => d) = l.map f := fun l => by
    induction l with
    | nil => rfl
    | cons c l ih => rw [List.map_cons, List.map_cons, ih]; rfl
  have := lcD_map (vs := [i]) (gb := g_name i) (te := te) (fun d => match d with | .str x => f ((cl x)[0]?.getD 0) | d => d) r (l.map sg) [] (fun d m => ?_) (by simpa using hl)
  · rw [fe] at this; simpa using this
  · obtain ⟨c, mc, rfl⟩ := List.mem_map.mp m
    refine ⟨r.set i (.fz (sg c)), r.set i (.fz (sg c)), by simp [g_name, wipeR], h c mc, ?_⟩
    simp only [restR, List.set_set]
    rw [hr, List.set_getElem_self]
theorem int_sg {a : Nat} (h : a < 3) : f_int [sg (48 + a)] = some (.int (((48 + a : Nat) : Int) - 48)) := by
  have e := f_int_dig (l := [48 + a]) (by simp) (by simp) (fun c m => by rw [List.mem_singleton.mp m, dig_cl]; simp; omega)
  rw [(it_ok a (by omega) 0 (by decide) 0 (by decide)).1] at e
  refine e.trans ?_
  simp
  omega
theorem map_toD (l : List Nat) : l.map (fun (c : Nat) => D.int ((c : Int) - 48)) = (toD l).map D.int := by simp [toD]
theorem law_digits_ok {l : List Nat} {w : Int} (hz : l.length ≤ SZ) (hw : w ≤ 30) : M_law_digits [.fz (.str (mkS l)), .fz (.int w)] = .ret (.fz (dOpt (digOf l w))) [.un, .un] := by
  unfold M_law_digits
  rw [defM_run (io := []) (np := 2) (nl := 1) (body := B_law_digits) rfl rfl]
  have hz' : (mkS l).length ≤ SZ := by show l.toArray.size ≤ SZ; simpa using hz
  have fl : f_len [.str (mkS l)] = some (.int l.length) := by
    have : (mkS l).length = l.length := by show l.toArray.size = _; simp
    simp only [f_len, if_pos hz', this]; rw [if_pos hz]
  have hs : sgnD (mkS l) = l.map sg := by simp [sgnD, mkS]
  have unf : B_law_digits = (s_seq (s_if (t_bol (o2 o_ne (p_d (os f_len (a_cons (p_d (e_var 0)) a_nil))) (p_d (e_var 1)))) (s_ret (e_c .non)) s_nil)
    (s_seq (s_for (i_any (e_var 0)) (g_name 2) (loopN 2 "012" .non))
    (s_ret (os f_tuple (a_cons (p_d (e_lst (l_lc [2] (i_any (e_var 0)) (g_name 2) t_yes (os f_int (a_cons (p_d (e_var 2)) a_nil))))) a_nil))))) := rfl
  rw [unf]
  generalize hB : loopN 2 "012" .non = B
  have hne : ∀ k : Bool, decide ((l.length : Int) = w) = k → o_ne (.int (l.length : Int)) (.int w) = some (.bl (!k)) := fun k h => by simp [o_ne, o_eq, h]
  by_cases h1 : (l.length : Int) = w
  · have hn := hne true (by simp [h1])
    generalize hN : (l.length : Int) = N at *
    by_cases hd : ∀ c ∈ l, c ∈ cl "012"
    · have e : digOf l w = some (toD l) := by unfold digOf; rw [if_pos ⟨by rw [hN]; exact h1, hd⟩]
      obtain ⟨s, e3, k⟩ := nin_all 2 "012" .non l [.fz (.str (mkS l)), .fz (.int w), .un] (by simp) hd
      rw [hB, ← hs] at e3
      have lc := lc_sg (i := 2) (te := os f_int (a_cons (p_d (e_var 2)) a_nil)) (fun c => D.int ((c : Int) - 48)) [.fz (.str (mkS l)), .fz (.int w), s] (by simp) (by
        rcases k with k | ⟨d, rfl⟩
        · simp at k; subst k; rfl
        · rfl) l hz (fun c m => by
          have e1 : f_int [sg c] = some (.int ((c : Int) - 48)) := by
            rcases mem012.mp (hd c m) with rfl | rfl | rfl
            · exact int_sg (a := 0) (by decide)
            · exact int_sg (a := 1) (by decide)
            · exact int_sg (a := 2) (by decide)
          simp -implicitDefEqProofs [e1])
      rw [map_toD, ← hs] at lc
      rw [e]
      have ht : f_tuple [.lst ((toD l).map .int)] = some (dOpt (some (toD l))) := rfl
      generalize (toD l).map D.int = L at *
      generalize dOpt (some (toD l)) = L2 at *
      generalize mkS l = W at *
      simp -implicitDefEqProofs [fl, hn, e3, lc, ht]
    · have e : digOf l w = none := by unfold digOf; rw [if_neg (fun z => hd z.2)]
      obtain ⟨s, e3⟩ := nin_some 2 "012" .non l [.fz (.str (mkS l)), .fz (.int w), .un] (by simp) hd
      rw [hB, ← hs] at e3
      rw [e]
      generalize mkS l = W at *
      simp -implicitDefEqProofs [fl, hn, e3, dOpt]
  · have e : digOf l w = none := by unfold digOf; rw [if_neg (fun z => h1 z.1)]
    have hn := hne false (by simp [h1])
    rw [e]
    simp -implicitDefEqProofs [fl, hn, dOpt]
theorem find_in {c : Nat} (h : c ∈ cl "012") : Txt.find "012" ⟨#[c]⟩ = (c : Int) - 48 := by
  rcases mem012.mp h with rfl | rfl | rfl <;> decide +kernel
theorem find_out {c : Nat} (h : c ∉ cl "012") : Txt.find "012" ⟨#[c]⟩ = -1 := by
  rcases PyProof.Rows.find_whole "012" ⟨#[c]⟩ with ⟨h1, _⟩ | ⟨i, h1, h2, _⟩
  · exact h1
  · exact absurd ((PyProof.Rows.mem_iff_at "012" c).mpr ⟨i, h2⟩) h
theorem minL_le : ∀ {l : List Int} {x : Int}, x ∈ l → minL l ≤ x
  | [], _, m => by cases m
  | [a], x, m => by cases List.mem_singleton.mp m; exact Int.le_refl _
  | a :: b :: l, x, m => by
    have ih := fun x m => minL_le (l := b :: l) (x := x) m
    unfold minL
    dsimp only
    rcases List.mem_cons.mp m with rfl | m
    · split <;> omega
    · have := ih x m
      split <;> omega
theorem minL_mem : ∀ {l : List Int}, l ≠ [] → minL l ∈ l
  | [], h => absurd rfl h
  | [a], _ => by simp [minL]
  | a :: b :: l, _ => by
    have ih := minL_mem (l := b :: l) (by simp)
    unfold minL
    dsimp only
    split
    · exact List.mem_cons_of_mem _ ih
    · exact List.mem_cons_self
theorem comings_of_ok {l : List Nat} {w : Int} (hz : l.length ≤ SZ) (w0 : 1 ≤ w) : M_comings_of [.fz (.str (mkS l)), .fz (.int w)] = .ret (.fz (dOpt (digOf l w))) [.un, .un] := by
  unfold M_comings_of
  rw [defM_run (io := []) (np := 2) (nl := 2) (body := B_comings_of) rfl rfl]
  have hz' : (mkS l).length ≤ SZ := by show l.toArray.size ≤ SZ; simpa using hz
  have fl : f_len [.str (mkS l)] = some (.int l.length) := by
    have : (mkS l).length = l.length := by show l.toArray.size = _; simp
    simp only [f_len, if_pos hz', this]; rw [if_pos hz]
  have hs : sgnD (mkS l) = l.map sg := by simp [sgnD, mkS]
  have hne : ∀ k : Bool, decide ((l.length : Int) = w) = k → o_ne (.int (l.length : Int)) (.int w) = some (.bl (!k)) := fun k h => by simp [o_ne, o_eq, h]
  by_cases h1 : (l.length : Int) = w
  · have hn := hne true (by simp [h1])
    have hl0 : l ≠ [] := fun z => by rw [z] at h1; simp at h1; omega
    have lc := lc_sg (i := 3) (te := e_sm f_find (e_c (.str "012")) (a_cons (p_d (e_var 3)) a_nil)) (fun c => D.int (Txt.find "012" ⟨#[c]⟩)) [.fz (.str (mkS l)), .fz (.int w), .un, .un] (by simp) rfl l hz (fun c m => by
      have e1 : f_find "012" [sg c] = some (.int (Txt.find "012" ⟨#[c]⟩)) := rfl
      simp -implicitDefEqProofs [e1])
    rw [← hs] at lc
    let ns := l.map fun c => Txt.find "012" ⟨#[c]⟩
    have hns : (l.map fun c => D.int (Txt.find "012" ⟨#[c]⟩)) = ns.map D.int := by simp [ns]
    rw [hns] at lc
    have fm : f_min [.lst (ns.map D.int)] = some (.int (minL ns)) := by
      have li : ∀ q : List Int, lsInts (.lst (q.map D.int)) = some q := fun q => by
        unfold lsInts
        dsimp only
        induction q with
        | nil => rfl
        | cons a q ih => rw [List.map_cons]; unfold intsOf; rw [ih]; rfl
      unfold f_min
      simp only [li]
      rw [if_pos (by simp [ns]; exact List.length_pos_iff.mpr hl0)]
    have nn : ns ≠ [] := by simp [ns, hl0]
    generalize hN : (l.length : Int) = N at *
    by_cases hd : ∀ c ∈ l, c ∈ cl "012"
    · have e : digOf l w = some (toD l) := by unfold digOf; rw [if_pos ⟨by rw [hN]; exact h1, hd⟩]
      have en : ns = toD l := List.map_congr_left fun c m => find_in (hd c m)
      have hm : ¬ minL ns < 0 := by
        obtain ⟨c, mc, e⟩ := List.mem_map.mp (minL_mem nn)
        rw [← e, find_in (hd c mc)]
        have := mem012.mp (hd c mc)
        omega
      rw [e]
      have ht : f_tuple [.lst (ns.map .int)] = some (dOpt (some (toD l))) := by rw [en]; rfl
      generalize ns.map D.int = L at *
      generalize dOpt (some (toD l)) = L2 at *
      generalize minL ns = mm at *
      generalize mkS l = W at *
      simp -implicitDefEqProofs [fl, hn, B_comings_of, lc, fm, ht, o_icmp, hm]
    · have e : digOf l w = none := by unfold digOf; rw [if_neg (fun z => hd z.2)]
      have hm : minL ns < 0 := by
        have : ∃ c, c ∈ l ∧ c ∉ cl "012" := by
          refine Classical.byContradiction fun z => hd fun c m => Classical.byContradiction fun k => z ⟨c, m, k⟩
        obtain ⟨c, m, k⟩ := this
        have := minL_le (l := ns) (List.mem_map.mpr ⟨c, m, rfl⟩)
        rw [find_out k] at this
        omega
      rw [e]
      generalize ns.map D.int = L at *
      generalize minL ns = mm at *
      generalize mkS l = W at *
      simp -implicitDefEqProofs [fl, hn, B_comings_of, lc, fm, o_icmp, hm, dOpt]
  · have e : digOf l w = none := by unfold digOf; rw [if_neg (fun z => h1 z.1)]
    have hn := hne false (by simp [h1])
    rw [e]
    simp -implicitDefEqProofs [fl, hn, B_comings_of, dOpt]
end Gk
set_option linter.all false
set_option maxRecDepth 100000
set_option maxHeartbeats 4000000
namespace Gk
open PySem L2 Ml
abbrev Row := List (List Int)
abbrev Stk := List (Row × Int)
def rowL : Stk → Row → Row
  | [], cur => cur
  | (q, _) :: rq, cur => rowL rq q ++ cur
theorem rowL_app : ∀ (rq : Stk) (q x : Row), rowL rq q ++ x = rowL rq (q ++ x)
  | [], q, x => rfl
  | (p, _) :: rq, q, x => by simp [rowL]
def rowO (R : Row) : O := .lst ((dR R).map .fz)
def prts (rq : Stk) (cur : Row) : List Row := rq.reverse.map (·.1) ++ [cur]
def partsO (rq : Stk) (cur : Row) : List O := (prts rq cur).map rowO
def timesO (rq : Stk) : List O := rq.reverse.map fun p => .fz (.int p.2)
def readerO (rq : Stk) (cur : Row) : O := .obj 4 [.lst (partsO rq cur), .lst (timesO rq)]
def partsD (rq : Stk) (cur : Row) : List D := (prts rq cur).map fun R => .lst (dR R)
def timesD (rq : Stk) : List D := rq.reverse.map fun p => .int p.2
theorem reader_data (rq : Stk) (cur : Row) : O.data fl (readerO rq cur) = some (.ins 4 [.lst (partsD rq cur), .lst (timesD rq)]) := by
  have h1 : O.datas fl (partsO rq cur) = some (partsD rq cur) := datas_map rowO (fun R => .lst (dR R)) _ fun R _ => data_lst (datas_fz _)
  have h2 : O.datas fl (timesO rq) = some (timesD rq) := datas_map _ _ _ fun p _ => by simp [O.data]
  unfold readerO O.data O.datas O.datas O.datas
  rw [data_lst h1, data_lst h2]
  rfl
theorem prts_sum : ∀ (rq : Stk) (cur : Row), ((prts rq cur).map fun R => (R.length : Int)).sum = ((rowL rq cur).length : Int)
  | [], cur => by simp [prts, rowL]
  | (q, t) :: rq, cur => by
    have ih := prts_sum rq q
    unfold prts at ih ⊢
    simp at ih ⊢
    simp [rowL]
    omega
theorem prts_len (rq : Stk) (cur : Row) : (prts rq cur).length = rq.length + 1 := by simp [prts]
/-- a state that can be -/
structure StOk (rq : Stk) (cur : Row) : Prop where
  n : rq.length ≤ 4
  tot : (rowL rq cur).length ≤ 1000
  ts : ∀ p ∈ rq, 0 ≤ p.2 ∧ p.2 ≤ 999
theorem room_ok {rq : Stk} {cur : Row} (h : StOk rq cur) : M_RowReader_room [.fz (.ins 4 [.lst (partsD rq cur), .lst (timesD rq)])] = .ret (.fz (.int (1000 - (rowL rq cur).length))) [.un] := by
  unfold M_RowReader_room
  rw [defM_run (io := []) (np := 1) (nl := 1) (body := B_RowReader_room) rfl rfl]
  have lc := lc_map (i := 1) (te := os f_len (a_cons (p_d (e_var 1)) a_nil)) (fun R : Row => D.lst (dR R)) (fun R => D.int (R.length : Int)) [.fz (.ins 4 [.lst (partsD rq cur), .lst (timesD rq)]), .un] (by simp) rfl (prts rq cur) (by rw [prts_len]; have := h.n; unfold SZ; omega) (fun R _ => by
    have e : f_len [.lst (dR R)] = some (.int R.length) := by simp [f_len, seqOf]
    generalize dR R = X at *
    simp -implicitDefEqProofs [e])
  have hs : f_sum [.lst ((prts rq cur).map fun R => D.int (R.length : Int))] = some (.int (rowL rq cur).length) := by
    have : ((prts rq cur).map fun R => D.int (R.length : Int)) = ((prts rq cur).map fun R => (R.length : Int)).map D.int := by simp
    rw [this, ← prts_sum]
    show Option.map _ (lsInts _) = _
    rw [lsInts_map]
    rfl
  have hp : ((prts rq cur).map fun R : Row => D.lst (dR R)) = partsD rq cur := rfl
  rw [hp] at lc
  have hf : o_fld 4 0 (.ins 4 [.lst (partsD rq cur), .lst (timesD rq)]) = some (.lst (partsD rq cur)) := rfl
  generalize partsD rq cur = PD at *
  generalize timesD rq = TD at *
  generalize ((prts rq cur).map fun R => D.int (R.length : Int)) = LD at *
  simp -implicitDefEqProofs [B_RowReader_room, hf, lc, hs, o_sub]
def rep (C : Row) (t : Int) : Row := (List.replicate t.toNat C).flatten
theorem rep_len (C : Row) (t : Int) : (rep C t).length = t.toNat * C.length := by simp [rep]
theorem mul_rep {C : Row} {t : Int} (t0 : 0 ≤ t) (t1 : t ≤ 999) (h : t * C.length ≤ 1000) : o_mul (.lst (dR C)) (.int t) = some (.lst (dR (rep C t))) := by
  have hr : repD (dR C) t.toNat = dR (rep C t) := by
    unfold repD rep dR
    induction t.toNat with
    | zero => rfl
    | succ n ih => rw [List.replicate_succ, List.flatten_cons, ih, List.replicate_succ, List.flatten_cons, List.map_append]
  unfold o_mul
  dsimp only
  rw [if_pos, hr]
  refine ⟨by omega, by omega, ?_⟩
  have h2 : ((C.length * t.toNat : Nat) : Int) = t * C.length := by
    rw [Int.natCast_mul, Int.toNat_of_nonneg t0, Int.mul_comm]
  have h3 : ((C.length * t.toNat : Nat) : Int) ≤ 1000 := by omega
  simp only [List.length_map]
  unfold SZ
  omega
theorem norm_reader (rq : Stk) (cur : Row) : norm (readerO rq cur) = .tr (readerO rq cur) := rfl
theorem tree_reader (rq : Stk) (cur : Row) : tree (.tr (readerO rq cur)) = some (readerO rq cur) := rfl
theorem fr_reader (rq : Stk) (cur : Row) (r : Rho) : frAll fl (.tr (readerO rq cur) :: r) = kfa (.fz (.ins 4 [.lst (partsD rq cur), .lst (timesD rq)])) (frAll fl r) := frAll_tr (fun d h => by cases h) (reader_data rq cur)
theorem add_ok {rq : Stk} {cur C : Row} {t : Int} (h : StOk rq cur) (t0 : 0 ≤ t) (t1 : t ≤ 999) (hC : C.length ≤ 1000) : M_RowReader_add [.tr (readerO rq cur), .fz (.lst (dR C)), .fz (.int t)] = if t * C.length > 1000 - (rowL rq cur).length then .ret (.fz (.bl false)) [.tr (readerO rq cur), .un, .un] else .ret (.fz (.bl true)) [.tr (readerO rq (cur ++ rep C t)), .un, .un] := by
  unfold M_RowReader_add
  rw [defM_run (io := [0]) (np := 3) (nl := 0) (body := B_RowReader_add) rfl rfl]
  have hr := room_ok h
  have hfl : f_len [.lst (dR C)] = some (.int C.length) := by simp [f_len, seqOf]
  have cm : CMul t (C.length : Int) := .inl (by omega)
  have hfr := fr_reader rq cur [.fz (.lst (dR C)), .fz (.int t)]
  have hown : isOwn (.tr (readerO rq cur)) = true := rfl
  have pl : (pl_ix (-1) (pl_fld 4 0 (pl_var 0))) [.tr (readerO rq cur), .fz (.lst (dR C)), .fz (.int t)] = some (0, [0, rq.length]) := by
    have h1 : (pl_fld 4 0 (pl_var 0)) [.tr (readerO rq cur), .fz (.lst (dR C)), .fz (.int t)] = some (0, [0]) := rfl
    have h2 : subO [.tr (readerO rq cur), .fz (.lst (dR C)), .fz (.int t)] 0 [0] = some (.lst (partsO rq cur)) := rfl
    have h3 : ixN (partsO rq cur).length (-1) = some rq.length := by
      have : (partsO rq cur).length = rq.length + 1 := by simp [partsO, prts_len]
      rw [this]
      simp [ixN]
      omega
    unfold pl_ix
    rw [h1]
    dsimp only
    rw [h2]
    dsimp only
    rw [h3]
    rfl
  have g1 : O.get (readerO rq cur) [0, rq.length] = some (rowO cur) := by
    have : (partsO rq cur)[rq.length]? = some (rowO cur) := by
      simp [partsO, prts]
    unfold readerO
    simp only [O.get, List.getElem?_cons_zero, this]
  have g2 : ∀ cur', O.put (readerO rq cur) [0, rq.length] (rowO cur') = readerO rq cur' := fun cur' => by
    have e1 : (partsO rq cur)[rq.length]? = some (rowO cur) := by
      simp [partsO, prts]
    have e2 : (partsO rq cur).set rq.length (rowO cur') = partsO rq cur' := by
      simp [partsO, prts]
    unfold readerO
    simp only [O.put, List.getElem?_cons_zero, e1, e2, List.set_cons_zero]
  by_cases hb : t * C.length > 1000 - (rowL rq cur).length
  · rw [if_pos hb]
    generalize readerO rq cur = X at *
    generalize dR C = Y at *
    generalize (D.lst (partsD rq cur)) = W at *
    generalize (D.lst (timesD rq)) = W2 at *
    simp -implicitDefEqProofs [B_RowReader_add, hfr, hfl, o_mul, cm, hr, o_gt, o_icmp, hb, hown]
  · rw [if_neg hb]
    have htot := h.tot
    have hm := mul_rep t0 t1 (C := C) (by omega)
    have hl2 : (rep C t).length ≤ 1000 := by
      have : ((rep C t).length : Int) = t * C.length := by rw [rep_len, Int.natCast_mul, Int.toNat_of_nonneg t0]
      omega
    have hcl : cur.length ≤ 1000 := by
      have : cur.length ≤ (rowL rq cur).length := by cases rq with
        | nil => exact Nat.le_refl _
        | cons p rq => obtain ⟨q, t⟩ := p; simp [rowL]
      omega
    have hx : g_extend ((dR cur).map .fz) [.lst (dR (rep C t))] = some (.non, (dR (cur ++ rep C t)).map .fz) := by
      simp only [g_extend]
      rw [if_pos (by simp; unfold SZ; omega)]
      simp
    have ha : (a_cons (p_d (o2 o_mul (p_d (e_var 1)) (p_d (e_var 2)))) a_nil) ([.tr (readerO rq cur), .fz (.lst (dR C)), .fz (.int t)].set 0 .un) = .ok [.d (.lst (dR (rep C t)))] [.un, .fz (.lst (dR C)), .fz (.int t)] := by
      generalize dR (rep C t) = Z at *
      generalize dR C = Y at *
      simp -implicitDefEqProofs [hm]
    have run := pm_run (f := g_extend) pl rfl (tree_reader rq cur) g1 ha rfl hx
    rw [show O.lst ((dR (cur ++ rep C t)).map .fz) = rowO (cur ++ rep C t) from rfl, g2, norm_reader] at run
    have hown2 : isOwn (.tr (readerO rq (cur ++ rep C t))) = true := rfl
    have hm2 : o_mul (.int t) (.int (C.length : Int)) = some (.int (t * C.length)) := by simp [o_mul, cm]
    generalize readerO rq (cur ++ rep C t) = X2 at *
    generalize readerO rq cur = X at *
    generalize dR C = Y at *
    generalize (D.lst (partsD rq cur)) = W at *
    generalize (D.lst (timesD rq)) = W2 at *
    generalize hq : (e_pm (pl_ix (-1) (pl_fld 4 0 (pl_var 0))) g_extend (a_cons (p_d (o2 o_mul (p_d (e_var 1)) (p_d (e_var 2)))) a_nil)) = EP at *
    have hB : B_RowReader_add = (s_seq (s_if (t_bor fl (t_bol (o2 o_gt (p_d (o2 o_mul (p_d (e_var 2)) (p_d (os f_len (a_cons (p_d (e_var 1)) a_nil))))) (p_d (e_ofV (v_methD 4 M_RowReader_room (e_var 0) a_nil)))))) (s_ret (e_c (.bl false))) s_nil) (s_seq (s_do EP) (s_ret (e_c (.bl true))))) := by rw [← hq]; rfl
    rw [hB]
    have hng : ¬ (1000 - ((rowL rq cur).length : Int) < t * C.length) := hb
    simp -implicitDefEqProofs [hfr, hfl, hm2, hr, o_gt, o_icmp, hng, hown, run, hown2]
end Gk
set_option linter.all false
set_option maxRecDepth 100000
set_option maxHeartbeats 4000000
namespace Gk
open PySem L2 Ml
theorem norm_row (R : Row) : norm (rowO R) = .own (dR R) := by
  have h : ∀ ds : List D, allFz (ds.map .fz) = some ds := fun ds => by
    induction ds with
    | nil => rfl
    | cons d ds ih => rw [List.map_cons]; unfold allFz; rw [ih]; rfl
  unfold rowO norm
  dsimp only
  rw [h]
theorem len_times (rq : Stk) : f_len [.lst (timesD rq)] = some (.int rq.length) := by simp [f_len, seqOf, timesD]
def closeW (rq : Stk) (cur : Row) : Option (Stk × Row) := match rq with
  | [] => none
  | (q, t) :: rq => if t * cur.length > 1000 - (rowL rq q).length then none else some (rq, q ++ rep cur t)
def outR (rq : Stk) (cur : Row) (k : Nat) : Option (Stk × Row) → FO → Prop
  | none, x => ∃ s, x = .ret (.fz (.bl false)) (s :: List.replicate k .un) ∧ isOwn s = true
  | some (rq, cur), x => x = .ret (.fz (.bl true)) (.tr (readerO rq cur) :: List.replicate k .un)
theorem StOk.pop {q : Row} {t : Int} {rq : Stk} {cur : Row} (h : StOk ((q, t) :: rq) cur) : StOk rq q ∧ 0 ≤ t ∧ t ≤ 999 ∧ cur.length ≤ 1000 := by
  have h1 := h.n; have h2 := h.tot; have h3 := h.ts
  simp only [rowL, List.length_append, List.length_cons] at h1 h2
  exact ⟨⟨by omega, by omega, fun p m => h3 p (List.mem_cons_of_mem _ m)⟩, (h3 _ List.mem_cons_self).1, (h3 _ List.mem_cons_self).2, by omega⟩
theorem end_ok {rq : Stk} {cur : Row} (h : StOk rq cur) : outR rq cur 0 (closeW rq cur) (M_RowReader_end_group [.tr (readerO rq cur)]) := by
  have hrun := defM_run (io := [0]) (np := 1) (nl := 2) (body := B_RowReader_end_group) (ss := [.tr (readerO rq cur)]) rfl rfl
  have hfr := fr_reader rq cur [.un, .un]
  have hfd : o_fld 4 1 (.ins 4 [.lst (partsD rq cur), .lst (timesD rq)]) = some (.lst (timesD rq)) := rfl
  have hl := len_times rq
  have hown : isOwn (.tr (readerO rq cur)) = true := rfl
  cases rq with
  | nil =>
    refine ⟨.tr (readerO [] cur), ?_, rfl⟩
    unfold M_RowReader_end_group
    rw [hrun]
    generalize readerO [] cur = X at *
    generalize (D.lst (partsD [] cur)) = W at *
    generalize (timesD []) = W2 at *
    simp -implicitDefEqProofs [B_RowReader_end_group, hfr, hfd, hl, o_eq, hown]
  | cons p rq =>
    obtain ⟨q, t⟩ := p
    obtain ⟨h', t0, t1, hc⟩ := h.pop
    have ha := add_ok (C := cur) h' t0 t1 hc
    -- the times
    have T1 : timesO ((q, t) :: rq) = timesO rq ++ [.fz (.int t)] := by simp [timesO]
    have P1 : partsO ((q, t) :: rq) cur = partsO rq q ++ [rowO cur] := by simp [partsO, prts]
    have r1 := pop_run (r := [.tr (readerO ((q, t) :: rq) cur), .un, .un]) (m := pl_fld 4 1 (pl_var 0)) (i := 0) (p := [1]) (ts := timesO ((q, t) :: rq)) (o := .fz (.int t)) rfl rfl rfl rfl (by rw [T1]; simp)
    have e1 : norm (O.put (readerO ((q, t) :: rq) cur) [1] (.lst (timesO ((q, t) :: rq)).dropLast)) = .tr (.obj 4 [.lst (partsO rq q ++ [rowO cur]), .lst (timesO rq)]) := by
      rw [T1, List.dropLast_concat, ← P1]; rfl
    rw [e1] at r1
    have r2 := pop_run (r := [.tr (.obj 4 [.lst (partsO rq q ++ [rowO cur]), .lst (timesO rq)]), .fz (.int t), .un]) (m := pl_fld 4 0 (pl_var 0)) (i := 0) (p := [0]) (ts := partsO rq q ++ [rowO cur]) (o := rowO cur) rfl rfl rfl rfl (by simp)
    have e2 : norm (O.put (.obj 4 [.lst (partsO rq q ++ [rowO cur]), .lst (timesO rq)]) [0] (.lst (partsO rq q ++ [rowO cur]).dropLast)) = .tr (readerO rq q) := by
      rw [List.dropLast_concat]; rfl
    rw [e2, norm_row] at r2
    have hne : ¬ ((((q, t) :: rq : Stk).length : Nat) : Int) = 0 := by simp; omega
    have hkt : ktree (some (.tr (readerO rq q))) = some (.obj 4 [.lst (partsO rq q), .lst (timesO rq)]) := rfl
    have hn : norm (.fz (.int t)) = .fz (.int t) := rfl
    rw [hn] at r1
    generalize hp1 : v_pop (pl_fld 4 1 (pl_var 0)) = V1 at *
    generalize hp2 : v_pop (pl_fld 4 0 (pl_var 0)) = V2 at *
    have hB : B_RowReader_end_group = (s_seq (s_if (t_bor fl (t_bol (o2 o_eq (p_d (os f_len (a_cons (p_d (o1 (o_fld 4 1) (p_d (e_var 0)))) a_nil))) (p_d (e_c (.int 0)))))) (s_ret (e_c (.bl false))) s_nil)
    (s_seq (s_setV 1 V1)
    (s_seq (s_setV 2 V2)
    (s_ret (e_ofV (v_meth 4 0 M_RowReader_add (a_cons (p_d (e_frz 2)) (a_cons (p_d (e_frz 1)) a_nil)))))))) := by rw [← hp1, ← hp2]; rfl
    have own2 : ∀ rq cur, isOwn (.tr (readerO rq cur)) = true := fun _ _ => rfl
    have tr2 : ∀ rq cur, ksl2 (some (.tr (readerO rq cur))) (some [.fz (.lst (dR cur)), .fz (.int t)]) = some [.tr (readerO rq cur), .fz (.lst (dR cur)), .fz (.int t)] := fun _ _ => rfl
    have slt : ksl2 (some (.tr (readerO rq q))) (some [.fz (.lst (dR cur)), .fz (.int t)]) = some [.tr (readerO rq q), .fz (.lst (dR cur)), .fz (.int t)] := rfl
    have putt : ∀ (rq : Stk) (cur : Row) (r : Rho) (i : Nat) (as : List AD) (os : Rho), put r (.ow i :: as) (.tr (readerO rq cur) :: os) = put (r.set i (.tr (readerO rq cur))) as os := fun _ _ _ _ _ _ => rfl
    unfold closeW
    dsimp only
    by_cases hb : t * cur.length > 1000 - (rowL rq q).length
    · rw [if_pos hb]
      rw [if_pos hb] at ha
      refine ⟨.tr (readerO rq q), ?_, rfl⟩
      unfold M_RowReader_end_group
      rw [hrun, hB]
      have p0 := putt rq q
      have o0 := own2 rq q
      generalize ((((q, t) :: rq : Stk).length : Nat) : Int) = N at *
      generalize (timesD ((q, t) :: rq)) = W2 at *
      generalize (D.lst (partsD ((q, t) :: rq) cur)) = W at *
      generalize readerO ((q, t) :: rq) cur = X at *
      generalize readerO rq q = X2 at *
      generalize (O.obj 4 [.lst (partsO rq q ++ [rowO cur]), .lst (timesO rq)]) = X3 at *
      generalize dR cur = Y at *
      simp -implicitDefEqProofs [hfr, hfd, hl, o_eq, hown, hne, r1, r2, hkt, slt, ha, p0, o0]
    · rw [if_neg hb]
      rw [if_neg hb] at ha
      simp only [outR]
      unfold M_RowReader_end_group
      rw [hrun, hB]
      have p0 := putt rq (q ++ rep cur t)
      have o0 := own2 rq (q ++ rep cur t)
      generalize ((((q, t) :: rq : Stk).length : Nat) : Int) = N at *
      generalize (timesD ((q, t) :: rq)) = W2 at *
      generalize (D.lst (partsD ((q, t) :: rq) cur)) = W at *
      generalize readerO ((q, t) :: rq) cur = X at *
      generalize readerO rq q = X2 at *
      generalize readerO rq (q ++ rep cur t) = X4 at *
      generalize (O.obj 4 [.lst (partsO rq q ++ [rowO cur]), .lst (timesO rq)]) = X3 at *
      generalize dR cur = Y at *
      simp -implicitDefEqProofs [hfr, hfd, hl, o_eq, hown, hne, r1, r2, hkt, slt, ha, p0, o0]
def openW (t : Int) (rq : Stk) (cur : Row) : Option (Stk × Row) := if rq.length = 4 then none else some ((cur, t) :: rq, [])
theorem begin_ok {rq : Stk} {cur : Row} {t : Int} (h : StOk rq cur) : outR rq cur 1 (openW t rq cur) (M_RowReader_begin_group [.tr (readerO rq cur), .fz (.int t)]) := by
  have hrun := defM_run (io := [0]) (np := 2) (nl := 0) (body := B_RowReader_begin_group) (ss := [.tr (readerO rq cur), .fz (.int t)]) rfl rfl
  have hfr := fr_reader rq cur [.fz (.int t)]
  have hfd : o_fld 4 1 (.ins 4 [.lst (partsD rq cur), .lst (timesD rq)]) = some (.lst (timesD rq)) := rfl
  have hl := len_times rq
  have hown : isOwn (.tr (readerO rq cur)) = true := rfl
  have hn4 := h.n
  unfold openW
  have r1 := pm_run (r := [.tr (readerO rq cur), .fz (.int t)]) (m := pl_fld 4 1 (pl_var 0)) (f := g_append) (args := a_cons (p_d (e_var 1)) a_nil) (i := 0) (p := [1]) (ts := timesO rq) rfl rfl rfl rfl (as := [.d (.int t)]) (r2 := [.un, .fz (.int t)]) (by simp) rfl (ds := [.int t]) (z := .non) (ts' := timesO rq ++ [.fz (.int t)]) (by
    simp only [g_append]; rw [if_pos (by simp [timesO]; unfold SZ; omega)])
  have e1 : norm (O.put (readerO rq cur) [1] (.lst (timesO rq ++ [.fz (.int t)]))) = .tr (.obj 4 [.lst (partsO rq cur), .lst (timesO rq ++ [.fz (.int t)])]) := rfl
  rw [e1] at r1
  have r2 := pmV_run (r := [.tr (.obj 4 [.lst (partsO rq cur), .lst (timesO rq ++ [.fz (.int t)])]), .fz (.int t)]) (m := pl_fld 4 0 (pl_var 0)) (mv := v_lst vs_nil) (i := 0) (p := [0]) (ts := partsO rq cur) rfl rfl rfl rfl (s2 := .own []) (r2 := [.un, .fz (.int t)]) rfl (o := .lst []) rfl (by simp [partsO, prts_len]; unfold SZ; omega)
  have e2 : norm (O.put (.obj 4 [.lst (partsO rq cur), .lst (timesO rq ++ [.fz (.int t)])]) [0] (.lst (partsO rq cur ++ [.lst []]))) = .tr (readerO ((cur, t) :: rq) []) := by
    have T1 : timesO ((cur, t) :: rq) = timesO rq ++ [.fz (.int t)] := by simp [timesO]
    have P1 : partsO ((cur, t) :: rq) [] = partsO rq cur ++ [.lst []] := by simp [partsO, prts, rowO]
    unfold readerO
    rw [T1, P1]
    rfl
  rw [e2] at r2
  have own2 : isOwn (.tr (readerO ((cur, t) :: rq) [])) = true := rfl
  generalize hq1 : (e_pm (pl_fld 4 1 (pl_var 0)) g_append (a_cons (p_d (e_var 1)) a_nil)) = E1 at *
  generalize hq2 : (e_pmV (pl_fld 4 0 (pl_var 0)) (v_lst vs_nil)) = E2 at *
  have hB : B_RowReader_begin_group = (s_seq (s_if (t_bor fl (t_bol (o2 o_eq (p_d (os f_len (a_cons (p_d (o1 (o_fld 4 1) (p_d (e_var 0)))) a_nil))) (p_d (e_c (.int 4)))))) (s_ret (e_c (.bl false))) s_nil)
    (s_seq (s_do E1)
    (s_seq (s_do E2)
    (s_ret (e_c (.bl true)))))) := by rw [← hq1, ← hq2]; rfl
  by_cases hb : rq.length = 4
  · rw [if_pos hb]
    refine ⟨.tr (readerO rq cur), ?_, rfl⟩
    unfold M_RowReader_begin_group
    rw [hrun, hB]
    rw [hb] at hl
    generalize (timesD rq) = W2 at *
    generalize (D.lst (partsD rq cur)) = W at *
    generalize readerO rq cur = X at *
    simp -implicitDefEqProofs [hfr, hfd, hl, o_eq, hown]
  · rw [if_neg hb]
    simp only [outR]
    unfold M_RowReader_begin_group
    rw [hrun, hB]
    have hne : ¬ ((rq.length : Nat) : Int) = 4 := by omega
    generalize ((rq.length : Nat) : Int) = N at *
    generalize (timesD rq) = W2 at *
    generalize (D.lst (partsD rq cur)) = W at *
    generalize readerO rq cur = X at *
    generalize readerO ((cur, t) :: rq) [] = X2 at *
    generalize (O.obj 4 [.lst (partsO rq cur), .lst (timesO rq ++ [.fz (.int t)])]) = X3 at *
    simp -implicitDefEqProofs [hfr, hfd, hl, o_eq, hown, hne, r1, r2, own2]
end Gk
set_option linter.all false
set_option maxRecDepth 100000
set_option maxHeartbeats 4000000
namespace Gk
open PySem L2 Ml
def aOf (l : List Nat) : List Nat := l.takeWhile (· != 42)
def bOf (l : List Nat) : List Nat := if 42 ∈ l then l.drop ((aOf l).length + 1) else l
def tOf (l : List Nat) : Int := if 42 ∈ l then numOf (aOf l) else 1
theorem tOf_range (l : List Nat) : 0 ≤ tOf l ∧ tOf l ≤ 999 := by
  unfold tOf; split
  · exact numOf_range _
  · omega
theorem star_parts {l a b : List Nat} (h : l = a ++ 42 :: b) (ha : 42 ∉ a) : 42 ∈ l ∧ aOf l = a ∧ bOf l = b := by
  have h1 : 42 ∈ l := by rw [h]; simp
  have h2 : aOf l = a := by
    unfold aOf
    rw [h, List.takeWhile_append_of_pos]
    · simp
    · intro x m
      have : x ≠ 42 := fun z => ha (z ▸ m)
      simpa using this
  refine ⟨h1, h2, ?_⟩
  unfold bOf
  rw [if_pos h1, h2, h, ← List.drop_drop]
  simp
theorem str_eq_mk (x : Str) (l : List Nat) (h : cl x = l) : x = mkS l := by rw [← h, mkS_cl]
theorem split_ok {l : List Nat} (hz : l.length ≤ SZ) : M_split_word [.fz (.str (mkS l))] = .ret (.fz (.tup [.int (tOf l), .str (mkS (bOf l))])) [.un] := by
  unfold M_split_word
  rw [defM_run (io := []) (np := 1) (nl := 4) (body := B_split_word) rfl rfl]
  have hz' : (mkS l).length ≤ SZ := by show l.toArray.size ≤ SZ; simpa using hz
  have hnin : o_nin (.str "*") (.str (mkS l)) = some (.bl (!decide (42 ∈ l))) := by
    rw [star_eq]
    have := nin_sg 42 (mkS l)
    rw [cl_mkS] at this
    exact this
  rcases star_cases (mkS l) with ⟨h1, h2⟩ | ⟨a, b, h1, h2, h3, h4⟩
  · rw [cl_mkS] at h1
    have e1 : tOf l = 1 := by unfold tOf; rw [if_neg h1]
    have e2 : bOf l = l := by unfold bOf; rw [if_neg h1]
    rw [e1, e2]
    simp -implicitDefEqProofs [B_split_word, hnin, h1]
  · rw [cl_mkS] at h1
    obtain ⟨k1, k2, k3⟩ := star_parts h1 h2
    have e1 : tOf l = numOf a := by unfold tOf; rw [if_pos k1, k2]
    have hp : f_partition (mkS l) [.str "*"] = some (.tup [.str (mkS a), .str "*", .str (mkS b)]) := by
      unfold f_partition
      dsimp only
      rw [if_pos ⟨by decide +kernel, hz'⟩, h4]
    have hal : a.length ≤ SZ := by rw [h1] at hz; simp at hz; omega
    obtain ⟨d, hd, en⟩ := number_of_ok hal
    rw [e1, k3]
    rcases hd with ⟨rfl, hd⟩ | rfl
    · simp -implicitDefEqProofs [B_split_word, hnin, k1, hp, en, o_isN, Ml.isNon, hd]
    · simp -implicitDefEqProofs [B_split_word, hnin, k1, hp, en, o_isN, Ml.isNon]
def addW (c : List Int) (t : Int) (rq : Stk) (cur : Row) : Option (Stk × Row) := if t > 1000 - (rowL rq cur).length then none else some (rq, cur ++ rep [c] t)
/-- a word read -/
def stepW (w : Int) (l : List Nat) (rq : Stk) (cur : Row) : Option (Stk × Row) :=
  if l = [41] then closeW rq cur
  else if tOf l = 0 then none
  else if 42 ∈ l ∧ bOf l = [40] then openW (tOf l) rq cur
  else match digOf (bOf l) w with
    | none => none
    | some c => addW c (tOf l) rq cur
theorem eq_str (x y : Str) : o_eq (.str x) (.str y) = some (.bl (decide (x = y))) := rfl
theorem mkS_eq (l : List Nat) (x : Str) (k : List Nat) (h : cl x = k) : decide (mkS l = x) = decide (l = k) := by
  by_cases z : l = k
  · subst z; simp [← h, mkS_cl]
  · have : mkS l ≠ x := fun e => z (by rw [← cl_mkS l, e, h])
    simp [z, this]
theorem cl_close : cl ")" = [41] := by decide +kernel
theorem cl_open : cl "(" = [40] := by decide +kernel
theorem read_word_ok {rq : Stk} {cur : Row} {l : List Nat} {w : Int} (h : StOk rq cur) (hz : l.length ≤ SZ) (w0 : 1 ≤ w) : outR rq cur 2 (stepW w l rq cur) (M_RowReader_read_word [.tr (readerO rq cur), .fz (.str (mkS l)), .fz (.int w)]) := by
  have hrun := defM_run (io := [0]) (np := 3) (nl := 3) (body := B_RowReader_read_word) (ss := [.tr (readerO rq cur), .fz (.str (mkS l)), .fz (.int w)]) rfl rfl
  have q1 := (eq_str (mkS l) ")").trans (by rw [mkS_eq l _ _ cl_close])
  have q2 := (eq_str (mkS (bOf l)) "(").trans (by rw [mkS_eq (bOf l) _ _ cl_open])
  have hsp := split_ok hz
  have hin : o_in (.str "*") (.str (mkS l)) = some (.bl (decide (42 ∈ l))) := by
    rw [star_eq]
    have : inD (sg 42) (.str (mkS l)) = some (decide (42 ∈ cl (mkS l))) := rfl
    rw [cl_mkS] at this
    unfold o_in
    rw [this]
    rfl
  have hbl : (bOf l).length ≤ SZ := by
    unfold bOf; split
    · simp; omega
    · exact hz
  have hdg := comings_of_ok (w := w) hbl w0
  have hkt : ktree (some (.tr (readerO rq cur))) = some (.obj 4 [.lst (partsO rq cur), .lst (timesO rq)]) := rfl
  have own0 : isOwn (.tr (readerO rq cur)) = true := rfl
  have sl0 : ∀ ss : Rho, ksl2 (some (.tr (readerO rq cur))) (some ss) = some (.tr (readerO rq cur) :: ss) := fun _ => rfl
  obtain ⟨t0, t1⟩ := tOf_range l
  have putt : ∀ (s : Slot), isOwn s = true → ∀ (r : Rho) (i : Nat) (as : List AD) (os : Rho), put r (.ow i :: as) (s :: os) = put (r.set i s) as os := fun s hs r i as os => by
    show (if isOwn s = true then put (r.set i s) as os else none) = _
    rw [if_pos hs]
  unfold stepW
  by_cases h1 : l = [41]
  · rw [if_pos h1]
    have he := end_ok h
    have q1' : o_eq (.str (mkS l)) (.str ")") = some (.bl true) := by rw [q1, h1]; rfl
    cases hc : closeW rq cur with
    | none =>
      rw [hc] at he
      obtain ⟨s, e, hs⟩ := he
      refine ⟨s, ?_, hs⟩
      unfold M_RowReader_read_word
      rw [hrun]
      have p0 := putt s hs
      generalize readerO rq cur = X at *
      generalize mkS l = W at *
      simp -implicitDefEqProofs [B_RowReader_read_word, q1', hkt, sl0, e, p0, own0, hs]
    | some p =>
      obtain ⟨rq2, cur2⟩ := p
      rw [hc] at he
      simp only [outR] at he ⊢
      unfold M_RowReader_read_word
      rw [hrun]
      have hs : isOwn (.tr (readerO rq2 cur2)) = true := rfl
      have p0 := putt _ hs
      generalize readerO rq2 cur2 = X2 at *
      generalize readerO rq cur = X at *
      generalize mkS l = W at *
      simp -implicitDefEqProofs [B_RowReader_read_word, q1', hkt, sl0, he, p0, own0, hs]
  · rw [if_neg h1]
    have q1' : o_eq (.str (mkS l)) (.str ")") = some (.bl false) := by rw [q1]; simp [h1]
    by_cases h2 : tOf l = 0
    · rw [if_pos h2]
      refine ⟨.tr (readerO rq cur), ?_, rfl⟩
      have q3 : o_eq (.int (tOf l)) (.int 0) = some (.bl true) := by simp [o_eq, h2]
      unfold M_RowReader_read_word
      rw [hrun]
      generalize tOf l = T at *
      generalize readerO rq cur = X at *
      generalize mkS l = W at *
      generalize mkS (bOf l) = W2 at *
      simp -implicitDefEqProofs [B_RowReader_read_word, q1', hsp, q3, own0]
    · rw [if_neg h2]
      have q3 : o_eq (.int (tOf l)) (.int 0) = some (.bl false) := by simp [o_eq, h2]
      by_cases h3 : bOf l = [40]
      · have q2' : o_eq (.str (mkS (bOf l))) (.str "(") = some (.bl true) := by rw [q2]; simp [h3]
        by_cases h4 : 42 ∈ l
        · rw [if_pos ⟨h4, h3⟩]
          have hb := begin_ok (t := tOf l) h
          cases hc : openW (tOf l) rq cur with
          | none =>
            rw [hc] at hb
            obtain ⟨s, e, hs⟩ := hb
            refine ⟨s, ?_, hs⟩
            unfold M_RowReader_read_word
            rw [hrun]
            have p0 := putt s hs
            generalize readerO rq cur = X at *
            generalize mkS l = W at *
            generalize mkS (bOf l) = W2 at *
            generalize tOf l = T at *
            simp -implicitDefEqProofs [B_RowReader_read_word, q1', hsp, q2', q3, hkt, sl0, e, p0, own0, hs, hin, h4]
          | some p =>
            obtain ⟨rq2, cur2⟩ := p
            rw [hc] at hb
            simp only [outR] at hb ⊢
            unfold M_RowReader_read_word
            rw [hrun]
            have hs : isOwn (.tr (readerO rq2 cur2)) = true := rfl
            have p0 := putt _ hs
            generalize readerO rq2 cur2 = X2 at *
            generalize readerO rq cur = X at *
            generalize mkS l = W at *
            generalize mkS (bOf l) = W2 at *
            generalize tOf l = T at *
            simp -implicitDefEqProofs [B_RowReader_read_word, q1', hsp, q2', q3, hkt, sl0, hb, p0, own0, hs, hin, h4]
        · rw [if_neg (fun z => h4 z.1)]
          have : digOf (bOf l) w = none := by
            unfold digOf
            rw [if_neg]
            rintro ⟨_, z⟩
            have := mem012.mp (z 40 (by rw [h3]; simp))
            omega
          rw [this]
          refine ⟨.tr (readerO rq cur), ?_, rfl⟩
          unfold M_RowReader_read_word
          rw [hrun]
          generalize readerO rq cur = X at *
          generalize mkS l = W at *
          generalize mkS (bOf l) = W2 at *
          generalize tOf l = T at *
          simp -implicitDefEqProofs [B_RowReader_read_word, q1', hsp, q2', q3, own0, hin, h4]
      · rw [if_neg (fun z => h3 z.2)]
        have q2' : o_eq (.str (mkS (bOf l))) (.str "(") = some (.bl false) := by rw [q2]; simp [h3]
        cases hd : digOf (bOf l) w with
        | none =>
          rw [hd] at hdg
          refine ⟨.tr (readerO rq cur), ?_, rfl⟩
          unfold M_RowReader_read_word
          rw [hrun]
          have nn : o_notN (dOpt none) .non = some (.bl false) := rfl
          generalize dOpt none = DN at *
          generalize readerO rq cur = X at *
          generalize mkS l = W at *
          generalize mkS (bOf l) = W2 at *
          generalize tOf l = T at *
          simp -implicitDefEqProofs [B_RowReader_read_word, q1', hsp, q2', q3, own0, hdg, nn]
        | some c =>
          rw [hd] at hdg
          have ha := add_ok (C := [c]) h t0 t1 (by simp)
          have hmul : tOf l * (([c] : Row).length : Int) = tOf l := by simp
          rw [hmul] at ha
          unfold addW
          have nn : o_notN (dOpt (some c)) .non = some (.bl true) := rfl
          have hdr : dR [c] = [dOpt (some c)] := rfl
          rw [hdr] at ha
          dsimp only
          by_cases hb : tOf l > 1000 - (rowL rq cur).length
          · rw [if_pos hb] at ha ⊢
            refine ⟨.tr (readerO rq cur), ?_, rfl⟩
            unfold M_RowReader_read_word
            rw [hrun]
            have p0 := putt _ own0
            generalize dOpt (some c) = DN at *
            generalize readerO rq cur = X at *
            generalize mkS l = W at *
            generalize mkS (bOf l) = W2 at *
            generalize tOf l = T at *
            simp -implicitDefEqProofs [B_RowReader_read_word, q1', hsp, q2', q3, own0, hdg, nn, hkt, sl0, ha, p0]
          · rw [if_neg hb] at ha ⊢
            simp only [outR]
            unfold M_RowReader_read_word
            rw [hrun]
            have hs : isOwn (.tr (readerO rq (cur ++ rep [c] (tOf l)))) = true := rfl
            have p0 := putt _ hs
            generalize readerO rq (cur ++ rep [c] (tOf l)) = X2 at *
            generalize dOpt (some c) = DN at *
            generalize readerO rq cur = X at *
            generalize mkS l = W at *
            generalize mkS (bOf l) = W2 at *
            generalize tOf l = T at *
            simp -implicitDefEqProofs [B_RowReader_read_word, q1', hsp, q2', q3, own0, hdg, nn, hkt, sl0, ha, p0, hs]
end Gk
set_option linter.all false
set_option maxRecDepth 100000
set_option maxHeartbeats 4000000
namespace Gk
open PySem L2 Ml
/-- the body of the loop of _law_read -/
def bodyL : SM := (s_seq (s_set 6 (o2 o_ix (p_d (e_var 4)) (p_d (e_var 5))))
    (s_seq (s_set 7 (e_c (.int 1)))
    (s_seq (s_set 8 (e_sm f_find (e_var 6) (a_cons (p_d (e_c (.str "*"))) a_nil)))
    (s_seq (s_if (t_bol (o2 o_ge (p_d (e_var 8)) (p_d (e_c (.int 0))))) (s_set 7 (e_call M_law_count (a_cons (p_d (e_slice (p_d (e_var 6)) p_no (p_at (e_var 8)))) a_nil))) s_nil)
    (s_if (t_bol (o2 o_eq (p_d (e_var 6)) (p_d (e_c (.str ")"))))) (s_seq (s_if (t_bol (o2 o_eq (p_d (os f_len (a_cons (p_ow 3) a_nil))) (p_d (e_c (.int 0))))) (s_ret (e_tup (a_cons (p_d (e_c (.str "bad"))) (a_cons (p_d (e_var 5)) a_nil)))) s_nil)
    (s_seq (s_set 9 (lmAt 3 f_pop []))
    (s_seq (s_set 10 (e_slice (p_d (e_var 2)) (p_at (o2 o_ix (p_d (e_var 9)) (p_d (e_c (.int 0))))) p_no))
    (s_seq (s_if (t_bol (o2 o_gt (p_d (o2 o_add (p_d (o2 o_ix (p_d (e_var 9)) (p_d (e_c (.int 0))))) (p_d (o2 o_mul (p_d (os f_len (a_cons (p_d (e_var 10)) a_nil))) (p_d (o2 o_ix (p_d (e_var 9)) (p_d (e_c (.int 1))))))))) (p_d (e_c (.int 1000))))) (s_ret (e_tup (a_cons (p_d (e_c (.str "bad"))) (a_cons (p_d (e_var 5)) a_nil)))) s_nil)
    (s_set 2 (o2 o_add (p_d (e_slice (p_d (e_var 2)) p_no (p_at (o2 o_ix (p_d (e_var 9)) (p_d (e_c (.int 0))))))) (p_d (o2 o_mul (p_d (e_var 10)) (p_d (o2 o_ix (p_d (e_var 9)) (p_d (e_c (.int 1))))))))))))) (s_if (t_bol (o2 o_eq (p_d (e_var 7)) (p_d (e_c (.int 0))))) (s_ret (e_tup (a_cons (p_d (e_c (.str "bad"))) (a_cons (p_d (e_var 5)) a_nil)))) (s_if (t_and (t_bol (o2 o_ge (p_d (e_var 8)) (p_d (e_c (.int 0))))) (t_bol (o2 o_eq (p_d (e_slice (p_d (e_var 6)) (p_at (o2 o_add (p_d (e_var 8)) (p_d (e_c (.int 1))))) p_no)) (p_d (e_c (.str "(")))))) (s_seq (s_if (t_bol (o2 o_eq (p_d (os f_len (a_cons (p_ow 3) a_nil))) (p_d (e_c (.int 4))))) (s_ret (e_tup (a_cons (p_d (e_c (.str "bad"))) (a_cons (p_d (e_var 5)) a_nil)))) s_nil)
    (s_do (e_lm 3 f_append (a_cons (p_d (e_tup (a_cons (p_d (os f_len (a_cons (p_d (e_var 2)) a_nil))) (a_cons (p_d (e_var 7)) a_nil)))) a_nil)))) (s_seq (s_set 11 (e_call M_law_digits (a_cons (p_d (e_slice (p_d (e_var 6)) (p_at (o2 o_add (p_d (e_var 8)) (p_d (e_c (.int 1))))) p_no)) (a_cons (p_d (e_var 1)) a_nil))))
    (s_seq (s_if (t_or (t_bol (o2 o_isN (p_d (e_var 11)) (p_d (e_c .non)))) (t_bol (o2 o_gt (p_d (o2 o_add (p_d (os f_len (a_cons (p_d (e_var 2)) a_nil))) (p_d (e_var 7)))) (p_d (e_c (.int 1000)))))) (s_ret (e_tup (a_cons (p_d (e_c (.str "bad"))) (a_cons (p_d (e_var 5)) a_nil)))) s_nil)
    (s_set 2 (o2 o_add (p_d (e_var 2)) (p_d (o2 o_mul (p_d (e_lst (l_lst (a_cons (p_d (e_var 11)) a_nil)))) (p_d (e_var 7)))))))))))))))
def grpL : Stk → List D
  | [] => []
  | (q, t) :: rq => grpL rq ++ [.tup [.int (rowL rq q).length, .int t]]
theorem grpL_len : ∀ rq : Stk, (grpL rq).length = rq.length
  | [] => rfl
  | (q, t) :: rq => by simp [grpL, grpL_len rq]
theorem rep_dR {C : Row} {t : Int} (t0 : 0 ≤ t) (t1 : t ≤ 999) (hC : C.length ≤ 1000) : o_mul (.lst (dR C)) (.int t) = some (.lst (dR (rep C t))) := by
  have hr : repD (dR C) t.toNat = dR (rep C t) := by
    unfold repD rep dR
    induction t.toNat with
    | zero => rfl
    | succ n ih => rw [List.replicate_succ, List.flatten_cons, ih, List.replicate_succ, List.flatten_cons, List.map_append]
  unfold o_mul
  dsimp only
  rw [if_pos, hr]
  refine ⟨by omega, by omega, ?_⟩
  simp only [List.length_map]
  have h2 : C.length * t.toNat ≤ 1000 * 999 := Nat.mul_le_mul hC (by omega)
  unfold SZ
  omega
theorem add_dR (A B : Row) (h : A.length + B.length ≤ 1000000) : o_add (.lst (dR A)) (.lst (dR B)) = some (.lst (dR (A ++ B))) := by
  unfold o_add
  dsimp only
  rw [if_pos (by simp; unfold SZ; omega)]
  simp
theorem cut_to (A B : Row) : f_slice (.lst (dR (A ++ B))) none (some (A.length : Int)) = some (.lst (dR A)) := by
  simp only [f_slice, cutD, HT.sIx_none, HT.sIx_nat]
  congr 2
  simp [dR]
theorem cut_from (A B : Row) : f_slice (.lst (dR (A ++ B))) (some (A.length : Int)) none = some (.lst (dR B)) := by
  simp only [f_slice, cutD, HT.sIx_none, HT.sIx_nat]
  congr 2
  simp [dR]
  rw [List.take_of_length_le (by simp)]
theorem len_dR (A : Row) : f_len [.lst (dR A)] = some (.int A.length) := by simp [f_len, seqOf]
/-- the slots of _law_read in its loop -/
def LS (x0 x1 x4 : D) (rq : Stk) (cur : Row) (r : Rho) : Prop := ∃ s5 s6 s7 s8 s9 s10 s11, r = [.fz x0, .fz x1, .fz (.lst (dR (rowL rq cur))), .own (grpL rq), .fz x4, s5, s6, s7, s8, s9, s10, s11]
def outL (x0 x1 x4 : D) (k : Nat) : Option (Stk × Row) → SO → Prop
  | none, x => ∃ r, x = .rt (.fz (.tup [.str "bad", .int k])) r ∧ 2 ≤ r.length
  | some (rq, cur), x => ∃ r, x = .nx r ∧ LS x0 x1 x4 rq cur r
theorem turnL {x0 x4 : D} {w : Int} {rq : Stk} {cur : Row} {l : List Nat} {k : Nat} (h : StOk rq cur) (hz : l.length ≤ SZ) (w0 : w ≤ 30) (hx : o_ix x4 (.int k) = some (.str (mkS l))) (s6 s7 s8 s9 s10 s11 : Slot) :
    outL x0 (.int w) x4 k (stepW w l rq cur) (bodyL [.fz x0, .fz (.int w), .fz (.lst (dR (rowL rq cur))), .own (grpL rq), .fz x4, .fz (.int k), s6, s7, s8, s9, s10, s11]) := by
  have hz' : (mkS l).length ≤ SZ := by show l.toArray.size ≤ SZ; simpa using hz
  have q1 := (eq_str (mkS l) ")").trans (by rw [mkS_eq l _ _ cl_close])
  have hlg : f_len [.lst (grpL rq)] = some (.int rq.length) := by simp [f_len, seqOf, grpL_len]
  have hlr := len_dR (rowL rq cur)
  have htot := h.tot
  have hn := h.n
  obtain ⟨t0, t1⟩ := tOf_range l
  have hbl : (bOf l).length ≤ SZ := by
    unfold bOf; split
    · simp; omega
    · exact hz
  have hdg := law_digits_ok (w := w) hbl w0
  -- times, cut, rest
  have cutT : ∃ cut : Int, f_find (mkS l) [.str "*"] = some (.int cut) ∧ (0 ≤ cut ↔ 42 ∈ l) ∧ f_slice (.str (mkS l)) (some (cut + 1)) none = some (.str (mkS (bOf l))) ∧
      (0 ≤ cut → ∃ a, f_slice (.str (mkS l)) none (some cut) = some (.str (mkS a)) ∧ M_law_count [.fz (.str (mkS a))] = .ret (.fz (.int (tOf l))) [.un]) ∧ (¬ 0 ≤ cut → tOf l = 1) := by
    rcases star_cases (mkS l) with ⟨h1, h2⟩ | ⟨a, b, h1, h2, h3, h4⟩
    · rw [cl_mkS] at h1
      have e1 : tOf l = 1 := by unfold tOf; rw [if_neg h1]
      have e2 : bOf l = l := by unfold bOf; rw [if_neg h1]
      refine ⟨-1, by unfold f_find; dsimp only; rw [h2], ⟨fun z => by omega, fun z => absurd z h1⟩, ?_, fun z => by omega, fun _ => e1⟩
      rw [e2]
      exact slice_all hz'
    · have h1' := h1
      rw [cl_mkS] at h1
      obtain ⟨k1, k2, k3⟩ := star_parts h1 h2
      have e1 : tOf l = numOf a := by unfold tOf; rw [if_pos k1, k2]
      refine ⟨(a.length : Int), by unfold f_find; dsimp only; rw [h3], ⟨fun _ => k1, fun _ => by omega⟩, ?_, fun _ => ⟨a, slice_to h1' hz', ?_⟩, fun z => by omega⟩
      · rw [k3]; exact slice_from h1' hz'
      · rw [e1]; exact count_ok (by rw [h1] at hz; simp at hz; omega)
  obtain ⟨cut, c1, c2, c3, c4, c5⟩ := cutT
  have ge0 : o_ge (.int cut) (.int 0) = some (.bl (decide (42 ∈ l))) := by
    simp only [o_ge, o_icmp]
    by_cases z : 42 ∈ l
    · simp [z, c2.mpr z]
    · have : ¬ 0 ≤ cut := fun y => z (c2.mp y)
      simp [z, this]
  -- the first part of the turn
  have first : ∀ (B : SM), (s_seq (s_set 6 (o2 o_ix (p_d (e_var 4)) (p_d (e_var 5))))
    (s_seq (s_set 7 (e_c (.int 1)))
    (s_seq (s_set 8 (e_sm f_find (e_var 6) (a_cons (p_d (e_c (.str "*"))) a_nil)))
    (s_seq (s_if (t_bol (o2 o_ge (p_d (e_var 8)) (p_d (e_c (.int 0))))) (s_set 7 (e_call M_law_count (a_cons (p_d (e_slice (p_d (e_var 6)) p_no (p_at (e_var 8)))) a_nil))) s_nil)
    B)))) [.fz x0, .fz (.int w), .fz (.lst (dR (rowL rq cur))), .own (grpL rq), .fz x4, .fz (.int k), s6, s7, s8, s9, s10, s11] =
      B [.fz x0, .fz (.int w), .fz (.lst (dR (rowL rq cur))), .own (grpL rq), .fz x4, .fz (.int k), .fz (.str (mkS l)), .fz (.int (tOf l)), .fz (.int cut), s9, s10, s11] := by
    intro B
    generalize mkS l = W at *
    generalize mkS (bOf l) = W2 at *
    generalize dR (rowL rq cur) = R at *
    generalize grpL rq = G at *
    by_cases z : 42 ∈ l
    · obtain ⟨a, a1, a2⟩ := c4 (c2.mpr z)
      simp -implicitDefEqProofs [hx, c1, ge0, z, a1, a2]
    · have e := c5 fun y => z (c2.mp y)
      rw [e]
      simp -implicitDefEqProofs [hx, c1, ge0, z]
  unfold bodyL
  rw [first]
  unfold stepW
  by_cases h1 : l = [41]
  · rw [if_pos h1]
    have q1' : o_eq (.str (mkS l)) (.str ")") = some (.bl true) := by rw [q1, h1]; rfl
    cases rq with
    | nil =>
      have e0 : f_len [.lst []] = some (.int 0) := rfl
      have e1 : o_eq (.int 0) (.int 0) = some (.bl true) := rfl
      simp only [outL, closeW]
      generalize mkS l = W at *
      simp -implicitDefEqProofs [q1', grpL, e0, e1]
    | cons p rq =>
      obtain ⟨q, t⟩ := p
      obtain ⟨h', t0', t1', hc⟩ := h.pop
      have hg : ((((q, t) :: rq : Stk).length : Nat) : Int) ≠ 0 := by simp; omega
      have e1 : o_eq (.int (((q, t) :: rq : Stk).length : Nat)) (.int 0) = some (.bl false) := by simp only [o_eq, decide_eq_false hg]
      have hpop : ∀ r : Rho, klm 3 f_pop [] (some (.own (grpL ((q, t) :: rq)))) r = .ok (.tup [.int (rowL rq q).length, .int t]) (r.set 3 (.own (grpL rq))) := fun r => by
        unfold klm f_pop
        simp only [grpL, List.getLast?_concat, List.dropLast_concat]
      have i0 : o_ix (.tup [.int (rowL rq q).length, .int t]) (.int 0) = some (.int (rowL rq q).length) := by simp [o_ix, seqOf, L2.atI, L2.ixN]
      have i1 : o_ix (.tup [.int (rowL rq q).length, .int t]) (.int 1) = some (.int t) := by simp [o_ix, seqOf, L2.atI, L2.ixN]
      have sl1 := cut_from (rowL rq q) cur
      have sl2 := cut_to (rowL rq q) cur
      have hrow : rowL ((q, t) :: rq) cur = rowL rq q ++ cur := rfl
      rw [← hrow] at sl1 sl2
      have hlc := len_dR cur
      have hmu := rep_dR t0' t1' hc
      have cm : CMul (cur.length : Int) t := .inr (by omega)
      have m1 : o_mul (.int (cur.length : Int)) (.int t) = some (.int ((cur.length : Int) * t)) := by simp [o_mul, cm]
      have a1 : o_add (.int (rowL rq q).length) (.int ((cur.length : Int) * t)) = some (.int ((rowL rq q).length + (cur.length : Int) * t)) := rfl
      have hcomm : (cur.length : Int) * t = t * cur.length := Int.mul_comm _ _
      have hrl : (rep cur t).length ≤ 1000 * 1000 := by
        rw [rep_len]
        exact Nat.mul_le_mul (by omega) hc
      have htq := h'.tot
      unfold closeW
      dsimp only
      by_cases hb : t * cur.length > 1000 - (rowL rq q).length
      · rw [if_pos hb]
        have g1 : o_gt (.int ((rowL rq q).length + (cur.length : Int) * t)) (.int 1000) = some (.bl true) := by
          simp only [o_gt, o_icmp]; rw [decide_eq_true (by rw [hcomm]; omega)]
        simp only [outL]
        generalize (((q, t) :: rq : Stk).length : Nat) = N at *
        generalize mkS l = W at *
        generalize dR (rowL ((q, t) :: rq) cur) = R at *
        generalize dR (rowL rq q) = R2 at *
        generalize dR (rep cur t) = R4 at *
        generalize dR cur = R3 at *
        generalize ((rowL rq q).length + (cur.length : Int) * t) = S at *
        generalize ((cur.length : Int) * t) = S2 at *
        generalize ((rowL rq q).length : Int) = S3 at *
        generalize grpL ((q, t) :: rq) = G at *
        simp -implicitDefEqProofs [q1', hlg, e1, x_lmAt, hpop, i0, i1, sl1, hlc, m1, a1, g1]
      · rw [if_neg hb]
        have g1 : o_gt (.int ((rowL rq q).length + (cur.length : Int) * t)) (.int 1000) = some (.bl false) := by
          simp only [o_gt, o_icmp]; rw [decide_eq_false (by rw [hcomm]; omega)]
        have ad := add_dR (rowL rq q) (rep cur t) (by
          have : ((rep cur t).length : Int) = t * cur.length := by rw [rep_len, Int.natCast_mul, Int.toNat_of_nonneg t0']
          omega)
        rw [rowL_app] at ad
        simp only [outL, LS]
        generalize (((q, t) :: rq : Stk).length : Nat) = N at *
        generalize mkS l = W at *
        generalize dR (rowL rq (q ++ rep cur t)) = R5 at *
        generalize dR (rowL ((q, t) :: rq) cur) = R at *
        generalize dR (rowL rq q) = R2 at *
        generalize dR (rep cur t) = R4 at *
        generalize dR cur = R3 at *
        generalize ((rowL rq q).length + (cur.length : Int) * t) = S at *
        generalize ((cur.length : Int) * t) = S2 at *
        generalize ((rowL rq q).length : Int) = S3 at *
        generalize grpL ((q, t) :: rq) = G at *
        simp -implicitDefEqProofs [q1', hlg, e1, x_lmAt, hpop, i0, i1, sl1, sl2, hlc, m1, a1, g1, hmu, ad]
  · rw [if_neg h1]
    have q1' : o_eq (.str (mkS l)) (.str ")") = some (.bl false) := by rw [q1]; simp [h1]
    by_cases h2 : tOf l = 0
    · rw [if_pos h2]
      have q3 : o_eq (.int (tOf l)) (.int 0) = some (.bl true) := by simp [o_eq, h2]
      simp only [outL]
      generalize tOf l = T at *
      generalize mkS l = W at *
      generalize dR (rowL rq cur) = R at *
      generalize grpL rq = G at *
      simp -implicitDefEqProofs [q1', q3]
    · rw [if_neg h2]
      have q3 : o_eq (.int (tOf l)) (.int 0) = some (.bl false) := by simp [o_eq, h2]
      have q2 := (eq_str (mkS (bOf l)) "(").trans (by rw [mkS_eq (bOf l) _ _ cl_open])
      have ca : o_add (.int cut) (.int 1) = some (.int (cut + 1)) := rfl
      by_cases h3 : 42 ∈ l ∧ bOf l = [40]
      · rw [if_pos h3]
        have ge1 : o_ge (.int cut) (.int 0) = some (.bl true) := by rw [ge0, decide_eq_true h3.1]
        have q2' : o_eq (.str (mkS (bOf l))) (.str "(") = some (.bl true) := by rw [q2]; simp [h3.2]
        unfold openW
        by_cases h4 : rq.length = 4
        · rw [if_pos h4]
          have e1 : o_eq (.int (rq.length : Nat)) (.int 4) = some (.bl true) := by simp [o_eq, h4]
          simp only [outL]
          generalize (rq.length : Nat) = N at *
          generalize tOf l = T at *
          generalize mkS (bOf l) = W2 at *
          generalize mkS l = W at *
          generalize dR (rowL rq cur) = R at *
          generalize grpL rq = G at *
          simp -implicitDefEqProofs [q1', q3, ge1, ca, c3, q2', hlg, e1]
        · rw [if_neg h4]
          have e1 : o_eq (.int (rq.length : Nat)) (.int 4) = some (.bl false) := by simp only [o_eq]; rw [decide_eq_false (by omega)]
          have gl : (grpL rq).length < SZ := by rw [grpL_len]; unfold SZ; omega
          have hg : grpL ((cur, tOf l) :: rq) = grpL rq ++ [.tup [.int (rowL rq cur).length, .int (tOf l)]] := rfl
          have hr : rowL ((cur, tOf l) :: rq) [] = rowL rq cur := by simp [rowL]
          simp only [outL, LS]
          rw [hg, hr]
          generalize (rq.length : Nat) = N at *
          generalize (((rowL rq cur).length : Nat) : Int) = M at *
          generalize tOf l = T at *
          generalize mkS (bOf l) = W2 at *
          generalize mkS l = W at *
          generalize dR (rowL rq cur) = R at *
          generalize grpL rq = G at *
          simp -implicitDefEqProofs [q1', q3, ge1, ca, c3, q2', hlg, e1, hlr, gl]
      · rw [if_neg h3]
        -- neither an end nor a begin
        have nob : ∀ (x y : SM) (r : Rho), r[6]? = some (.fz (.str (mkS l))) → r[8]? = some (.fz (.int cut)) → (s_if (t_and (t_bol (o2 o_ge (p_d (e_var 8)) (p_d (e_c (.int 0))))) (t_bol (o2 o_eq (p_d (e_slice (p_d (e_var 6)) (p_at (o2 o_add (p_d (e_var 8)) (p_d (e_c (.int 1))))) p_no)) (p_d (e_c (.str "(")))))) x y) r = y r := by
          intro x y r r6 r8
          by_cases z : 42 ∈ l
          · have ge1 : o_ge (.int cut) (.int 0) = some (.bl true) := by rw [ge0, decide_eq_true z]
            have q2' : o_eq (.str (mkS (bOf l))) (.str "(") = some (.bl false) := by
              rw [q2]
              have : bOf l ≠ [40] := fun y => h3 ⟨z, y⟩
              simp [this]
            simp -implicitDefEqProofs [r6, r8, ge1, ca, c3, q2']
          · have ge1 : o_ge (.int cut) (.int 0) = some (.bl false) := by rw [ge0, decide_eq_false z]
            simp -implicitDefEqProofs [r8, ge1]
        cases hd : digOf (bOf l) w with
        | none =>
          rw [hd] at hdg
          have nn : o_isN (dOpt none) .non = some (.bl true) := rfl
          simp only [outL]
          generalize dOpt none = DN at *
          rw [x_if]
          generalize tOf l = T at *
          generalize mkS (bOf l) = W2 at *
          generalize mkS l = W at *
          generalize dR (rowL rq cur) = R at *
          generalize grpL rq = G at *
          simp -implicitDefEqProofs only [x_tbol, x_o2, x_pd, x_var, List.getElem?_cons_succ, List.getElem?_cons_zero, kvar_fz, bind_ok, kpd_eq, k2a_eq, k2b_eq, x_c, res_d, k2m_some, q1', opt_some, ktb_bl, seq_ok, ksi_f]
          rw [x_if]
          simp -implicitDefEqProofs only [x_tbol, x_o2, x_pd, x_var, List.getElem?_cons_succ, List.getElem?_cons_zero, kvar_fz, bind_ok, kpd_eq, k2a_eq, k2b_eq, x_c, res_d, k2m_some, q3, opt_some, ktb_bl, seq_ok, ksi_f]
          rw [nob _ _ _ rfl rfl]
          simp -implicitDefEqProofs [ca, c3, hdg, nn]
        | some c =>
          rw [hd] at hdg
          have nn : o_isN (dOpt (some c)) .non = some (.bl false) := rfl
          have a1 : o_add (.int (rowL rq cur).length) (.int (tOf l)) = some (.int ((rowL rq cur).length + tOf l)) := rfl
          have hmu := rep_dR (C := [c]) t0 t1 (by simp)
          have hdr : dR [c] = [dOpt (some c)] := rfl
          rw [hdr] at hmu
          dsimp only
          unfold addW
          by_cases hb : tOf l > 1000 - (rowL rq cur).length
          · rw [if_pos hb]
            have g1 : o_gt (.int ((rowL rq cur).length + tOf l)) (.int 1000) = some (.bl true) := by
              simp only [o_gt, o_icmp]; rw [decide_eq_true (by omega)]
            simp only [outL]
            generalize ((rowL rq cur).length + tOf l) = S at *
            generalize dR (rep [c] (tOf l)) = R4 at *
            generalize dOpt (some c) = DN at *
            generalize (((rowL rq cur).length : Nat) : Int) = M at *
            rw [x_if]
            generalize tOf l = T at *
            generalize mkS (bOf l) = W2 at *
            generalize mkS l = W at *
            generalize dR (rowL rq cur) = R at *
            generalize grpL rq = G at *
            simp -implicitDefEqProofs only [x_tbol, x_o2, x_pd, x_var, List.getElem?_cons_succ, List.getElem?_cons_zero, kvar_fz, bind_ok, kpd_eq, k2a_eq, k2b_eq, x_c, res_d, k2m_some, q1', opt_some, ktb_bl, seq_ok, ksi_f]
            rw [x_if]
            simp -implicitDefEqProofs only [x_tbol, x_o2, x_pd, x_var, List.getElem?_cons_succ, List.getElem?_cons_zero, kvar_fz, bind_ok, kpd_eq, k2a_eq, k2b_eq, x_c, res_d, k2m_some, q3, opt_some, ktb_bl, seq_ok, ksi_f]
            rw [nob _ _ _ rfl rfl]
            simp -implicitDefEqProofs [ca, c3, hdg, nn, hlr, a1, g1]
          · rw [if_neg hb]
            have g1 : o_gt (.int ((rowL rq cur).length + tOf l)) (.int 1000) = some (.bl false) := by
              simp only [o_gt, o_icmp]; rw [decide_eq_false (by omega)]
            have ad := add_dR (rowL rq cur) (rep [c] (tOf l)) (by rw [rep_len]; simp; omega)
            rw [rowL_app] at ad
            simp only [outL, LS]
            generalize dR (rowL rq (cur ++ rep [c] (tOf l))) = R5 at *
            generalize ((rowL rq cur).length + tOf l) = S at *
            generalize dR (rep [c] (tOf l)) = R4 at *
            generalize dOpt (some c) = DN at *
            generalize (((rowL rq cur).length : Nat) : Int) = M at *
            rw [x_if]
            generalize tOf l = T at *
            generalize mkS (bOf l) = W2 at *
            generalize mkS l = W at *
            generalize dR (rowL rq cur) = R at *
            generalize grpL rq = G at *
            simp -implicitDefEqProofs only [x_tbol, x_o2, x_pd, x_var, List.getElem?_cons_succ, List.getElem?_cons_zero, kvar_fz, bind_ok, kpd_eq, k2a_eq, k2b_eq, x_c, res_d, k2m_some, q1', opt_some, ktb_bl, seq_ok, ksi_f]
            rw [x_if]
            simp -implicitDefEqProofs only [x_tbol, x_o2, x_pd, x_var, List.getElem?_cons_succ, List.getElem?_cons_zero, kvar_fz, bind_ok, kpd_eq, k2a_eq, k2b_eq, x_c, res_d, k2m_some, q3, opt_some, ktb_bl, seq_ok, ksi_f]
            rw [nob _ _ _ rfl rfl]
            simp -implicitDefEqProofs [ca, c3, hdg, nn, hlr, a1, g1, hmu, ad]
end Gk
set_option linter.all false
set_option maxRecDepth 100000
set_option maxHeartbeats 4000000
namespace Gk
open PySem L2 Ml
theorem step_ok {w : Int} {l : List Nat} {rq rq' : Stk} {cur cur' : Row} (h : StOk rq cur) (e : stepW w l rq cur = some (rq', cur')) : StOk rq' cur' := by
  have hn := h.n; have ht := h.tot; have hs := h.ts
  obtain ⟨t0, t1⟩ := tOf_range l
  unfold stepW at e
  split at e
  · unfold closeW at e
    split at e
    · cases e
    · rename_i q t rq
      obtain ⟨h', t0', t1', hc⟩ := h.pop
      split at e
      · cases e
      · rename_i hb
        cases e
        refine ⟨h'.n, ?_, h'.ts⟩
        rw [← rowL_app, List.length_append]
        have : ((rep cur t).length : Int) = t * cur.length := by rw [rep_len, Int.natCast_mul, Int.toNat_of_nonneg t0']
        omega
  · split at e
    · cases e
    · split at e
      · unfold openW at e
        split at e
        · cases e
        · cases e
          refine ⟨by simp; omega, by simpa [rowL] using ht, fun p m => ?_⟩
          rcases List.mem_cons.mp m with rfl | m
          · exact ⟨t0, t1⟩
          · exact hs p m
      · split at e
        · cases e
        · unfold addW at e
          split at e
          · cases e
          · rename_i c _ hb
            cases e
            refine ⟨hn, ?_, hs⟩
            rw [← rowL_app, List.length_append]
            have : (rep [c] (tOf l)).length = (tOf l).toNat := by rw [rep_len]; simp
            omega
inductive RR where
  | bad (k : Nat) | ok (rq : Stk) (cur : Row)
def runW (w : Int) : List (List Nat) → Nat → Stk → Row → RR
  | [], _, rq, cur => .ok rq cur
  | l :: ls, k, rq, cur => match stepW w l rq cur with
    | none => .bad k
    | some (rq', cur') => runW w ls (k + 1) rq' cur'
theorem run_ok {w : Int} : ∀ {ls : List (List Nat)} {k : Nat} {rq rq' : Stk} {cur cur' : Row}, StOk rq cur → runW w ls k rq cur = .ok rq' cur' → StOk rq' cur'
  | [], k, rq, rq', cur, cur', h, e => by cases e; exact h
  | l :: ls, k, rq, rq', cur, cur', h, e => by
    unfold runW at e
    split at e
    · cases e
    · rename_i rq2 cur2 e2
      exact run_ok (step_ok h e2) e
/-- the texts' words as signs -/
def codes (ws : List Str) : List (List Nat) := ws.map cl
def outL2 (x0 x1 x4 : D) : RR → SO → Prop
  | .bad k, x => ∃ r, x = .rt (.fz (.tup [.str "bad", .int k])) r ∧ 2 ≤ r.length
  | .ok rq cur, x => ∃ r, x = .nx r ∧ LS x0 x1 x4 rq cur r
theorem loopL {x0 : D} {w : Int} (ws : List Str) (w0 : w ≤ 30) (hz : ∀ x ∈ ws, x.length ≤ SZ) : ∀ (ls : List Str) (k : Nat) (rq : Stk) (cur : Row) (r : Rho), ws.drop k = ls → k ≤ ws.length → StOk rq cur → LS x0 (.int w) (.lst (ws.map .str)) rq cur r →
    outL2 x0 (.int w) (.lst (ws.map .str)) (runW w (codes ls) k rq cur) (forD (g_name 5) bodyL ((rngD 0 ws.length).drop k) r)
  | [], k, rq, cur, r, hd, hk, h, hr => by
    have : k = ws.length := by
      have := congrArg List.length hd
      simp at this; omega
    rw [this, rng_end]
    exact ⟨r, rfl, hr⟩
  | x :: ls, k, rq, cur, r, hd, hk, h, hr => by
    have hkl : k < ws.length := by
      have := congrArg List.length hd
      simp at this; omega
    have hx : ws[k]? = some x := by
      have := congrArg (fun z => z[0]?) hd
      simpa using this
    have hd' : ws.drop (k + 1) = ls := by
      have := congrArg (List.drop 1) hd
      simpa using this
    have hix : o_ix (.lst (ws.map .str)) (.int k) = some (.str (mkS (cl x))) := by
      rw [mkS_cl]
      exact atI_nat (by simp [hx])
    have hzx : (cl x).length ≤ SZ := by rw [cl_len]; exact hz x (List.mem_of_getElem? hx)
    obtain ⟨s5, s6, s7, s8, s9, s10, s11, rfl⟩ := hr
    have ht := turnL (x0 := x0) (rq := rq) (cur := cur) (k := k) h hzx w0 hix s6 s7 s8 s9 s10 s11
    rw [rng_drop _ _ hkl]
    unfold forD
    simp only [g_name, List.set_cons_succ, List.set_cons_zero]
    simp only [codes, List.map_cons]
    unfold runW
    cases e : stepW w (cl x) rq cur with
    | none =>
      rw [e] at ht
      obtain ⟨r2, e2, l2⟩ := ht
      rw [e2]
      exact ⟨r2, rfl, l2⟩
    | some p =>
      obtain ⟨rq2, cur2⟩ := p
      rw [e] at ht
      obtain ⟨r2, e2, l2⟩ := ht
      rw [e2]
      exact loopL ws w0 hz ls (k + 1) rq2 cur2 r2 hd' (by omega) (step_ok h e) l2
inductive RS where
  | bad (k : Nat) | row (R : Row)
def readR (w : Int) (t : Str) : RS :=
  if t = "" then .row [] else match runW w (codes (Txt.split t " ")) 0 [] [] with
    | .bad k => .bad k
    | .ok rq cur => if rq = [] then .row cur else .bad (Txt.split t " ").length
def rsD : RS → D
  | .bad k => .tup [.str "bad", .int k]
  | .row R => .tup [.str "row", .lst (dR R)]
theorem st0 : StOk [] [] := ⟨by simp, by simp [rowL], fun p m => by cases m⟩
theorem keep2 {a b : D} {r : Rho} (h : 2 ≤ r.length) : keepO [.fz a, .fz b] r = [.un, .un] := by
  match r, h with
  | x :: y :: r, _ => simp
/-- what the words of a text are -/
theorem words_ok {t : Str} (ht : t.length ≤ 5000000) : f_split t [.str " "] = some (.lst ((Txt.split t " ").map .str)) ∧ (Txt.split t " ").length ≤ 5000001 ∧ ∀ x ∈ Txt.split t " ", x.length ≤ SZ := by
  have B1 := PyProof.Rows.split_weight t " " (by decide +kernel)
  refine ⟨?_, by omega, fun x m => ?_⟩
  · unfold f_split
    dsimp only
    rw [if_pos ⟨by decide +kernel, by unfold SZ; omega⟩]
  · have : x.length ≤ ((Txt.split t " ").map (·.length)).sum := by
      generalize Txt.split t " " = l at m
      induction l with
      | nil => cases m
      | cons y l ih =>
        simp only [List.map_cons, List.sum_cons]
        rcases List.mem_cons.mp m with rfl | m
        · omega
        · have := ih m; omega
    unfold SZ
    omega
theorem law_read_ok {t : Str} {w : Int} (ht : t.length ≤ 5000000) (w0 : w ≤ 30) : M_law_read [.fz (.str t), .fz (.int w)] = .ret (.fz (rsD (readR w t))) [.un, .un] := by
  unfold M_law_read
  rw [defM_run (io := []) (np := 2) (nl := 10) (body := B_law_read) rfl rfl]
  have unf : B_law_read = (s_seq (s_set 2 (e_lst (l_lst a_nil)))
    (s_seq (s_own 3 (l_lst a_nil))
    (s_seq (s_if (t_bol (o2 o_eq (p_d (e_var 0)) (p_d (e_c (.str ""))))) (s_ret (e_tup (a_cons (p_d (e_c (.str "row"))) (a_cons (p_d (e_var 2)) a_nil)))) s_nil)
    (s_seq (s_set 4 (e_sm f_split (e_var 0) (a_cons (p_d (e_c (.str " "))) a_nil)))
    (s_seq (s_for (i_rng1 (a_cons (p_d (os f_len (a_cons (p_d (e_var 4)) a_nil))) a_nil)) (g_name 5) bodyL)
    (s_seq (s_if (t_bol (o2 o_gt (p_d (os f_len (a_cons (p_ow 3) a_nil))) (p_d (e_c (.int 0))))) (s_ret (e_tup (a_cons (p_d (e_c (.str "bad"))) (a_cons (p_d (os f_len (a_cons (p_d (e_var 4)) a_nil))) a_nil)))) s_nil)
    (s_ret (e_tup (a_cons (p_d (e_c (.str "row"))) (a_cons (p_d (e_var 2)) a_nil)))))))))) := rfl
  rw [unf]
  have q0 : ∀ k, decide (t = ("" : Str)) = k → o_eq (.str t) (.str "") = some (.bl k) := fun k h => by rw [eq_str, h]
  unfold readR
  by_cases h0 : t = ("" : Str)
  · rw [if_pos h0]
    have q := q0 true (by simp [h0])
    simp -implicitDefEqProofs [q, rsD]
  · rw [if_neg h0]
    have q := q0 false (by simp [h0])
    obtain ⟨k1, k2, k3⟩ := words_ok ht
    generalize Txt.split t " " = ws at *
    have hl : f_len [.lst (ws.map .str)] = some (.int ws.length) := by simp [f_len, seqOf]
    have hi : inRng (ws.length : Int) = true := by simp [inRng]; omega
    have lp := loopL (x0 := .str t) (w := w) ws w0 k3 ws 0 [] [] [.fz (.str t), .fz (.int w), .fz (.lst []), .own [], .fz (.lst (ws.map .str)), .un, .un, .un, .un, .un, .un, .un] (by simp) (by omega) st0 ⟨_, _, _, _, _, _, _, rfl⟩
    rw [List.drop_zero] at lp
    cases hr : runW w (codes ws) 0 [] [] with
    | bad k =>
      rw [hr] at lp
      obtain ⟨r2, e2, l2⟩ := lp
      have kp := keep2 (a := .str t) (b := .int w) l2
      generalize ws.map D.str = WD at *
      simp -implicitDefEqProofs [q, k1, hl, hi, e2, kp, rsD]
    | ok rq cur =>
      rw [hr] at lp
      obtain ⟨r2, e2, s5, s6, s7, s8, s9, s10, s11, rfl⟩ := lp
      have hlg : f_len [.lst (grpL rq)] = some (.int rq.length) := by simp [f_len, seqOf, grpL_len]
      dsimp only
      by_cases hq : rq = []
      · rw [if_pos hq]
        subst hq
        have g1 : o_gt (.int (([] : Stk).length : Nat)) (.int 0) = some (.bl false) := rfl
        have hrl : rowL [] cur = cur := rfl
        rw [hrl] at e2
        simp only [rsD]
        generalize (([] : Stk).length : Nat) = N at *
        generalize ws.map D.str = WD at *
        generalize dR cur = R at *
        generalize grpL [] = G at *
        simp -implicitDefEqProofs [q, k1, hl, hi, e2, hlg, g1]
      · rw [if_neg hq]
        have g1 : o_gt (.int (rq.length : Nat)) (.int 0) = some (.bl true) := by
          have : 0 < rq.length := List.length_pos_iff.mpr hq
          simp only [o_gt, o_icmp]; rw [decide_eq_true (by omega)]
        simp only [rsD]
        generalize (rq.length : Nat) = N at *
        generalize ws.map D.str = WD at *
        generalize dR (rowL rq cur) = R at *
        generalize grpL rq = G at *
        simp -implicitDefEqProofs [q, k1, hl, hi, e2, hlg, g1]
end Gk
set_option linter.all false
set_option maxRecDepth 100000
set_option maxHeartbeats 4000000
namespace Gk
open PySem L2 Ml
theorem init_ok : M_RowReader___init [.obj 4 []] = .ret (.fz .non) [.tr (readerO [] [])] := by rfl
def bodyR2 : SM := (s_if (t_not (o1 tru (p_d (e_ofV (v_meth 4 2 M_RowReader_read_word (a_cons (p_d (e_var 5)) (a_cons (p_d (e_var 1)) a_nil))))))) (s_exc 2 x_1 (a_cons (p_d (e_var 4)) a_nil)) s_nil)
def RSl (x0 x1 x3 : D) (rq : Stk) (cur : Row) (r : Rho) : Prop := ∃ s4 s5, r = [.fz x0, .fz x1, .tr (readerO rq cur), .fz x3, s4, s5] ∧ ((s4 = .un ∧ s5 = .un) ∨ ∃ d e, s4 = .fz d ∧ s5 = .fz e)
def outR2 (x0 x1 x3 : D) : RR → SO → Prop
  | .bad k, x => ∃ r, x = .exc 2 [.int k] r ∧ 2 ≤ r.length
  | .ok rq cur, x => ∃ r, x = .nx r ∧ RSl x0 x1 x3 rq cur r
theorem fVal_nat (k : Nat) (h : k ≤ 6000000) : x_1 [.int (k : Int)] = some [.int (k : Int)] := by
  unfold x_1 fVal
  dsimp only
  rw [if_pos]
  rw [decide_eq_true]
  simp
  omega
theorem turnR {x0 x3 : D} {w : Int} {rq : Stk} {cur : Row} {x : Str} {k : Nat} (h : StOk rq cur) (hz : x.length ≤ SZ) (w0 : 1 ≤ w) (hk : k ≤ 6000000) :
    match stepW w (cl x) rq cur with
    | none => ∃ r, bodyR2 [.fz x0, .fz (.int w), .tr (readerO rq cur), .fz x3, .fz (.int k), .fz (.str x)] = .exc 2 [.int k] r ∧ 2 ≤ r.length
    | some (rq2, cur2) => bodyR2 [.fz x0, .fz (.int w), .tr (readerO rq cur), .fz x3, .fz (.int k), .fz (.str x)] = .nx [.fz x0, .fz (.int w), .tr (readerO rq2 cur2), .fz x3, .fz (.int k), .fz (.str x)] := by
  have hrw := read_word_ok (w := w) (l := cl x) h (by rw [cl_len]; exact hz) w0
  rw [mkS_cl] at hrw
  have hkt : ktree (some (.tr (readerO rq cur))) = some (.obj 4 [.lst (partsO rq cur), .lst (timesO rq)]) := rfl
  have sl0 : ∀ ss : Rho, ksl2 (some (.tr (readerO rq cur))) (some ss) = some (.tr (readerO rq cur) :: ss) := fun _ => rfl
  have putt : ∀ (s : Slot), isOwn s = true → ∀ (r : Rho) (i : Nat) (as : List AD) (os : Rho), put r (.ow i :: as) (s :: os) = put (r.set i s) as os := fun s hs r i as os => by
    show (if isOwn s = true then put (r.set i s) as os else none) = _
    rw [if_pos hs]
  have hx1 := fVal_nat k hk
  cases e : stepW w (cl x) rq cur with
  | none =>
    rw [e] at hrw
    obtain ⟨s, e1, hs⟩ := hrw
    have p0 := putt s hs
    dsimp only
    generalize readerO rq cur = X at *
    simp -implicitDefEqProofs [bodyR2, hkt, sl0, e1, p0, tru, hx1]
  | some p =>
    obtain ⟨rq2, cur2⟩ := p
    rw [e] at hrw
    simp only [outR] at hrw
    have p0 := putt (.tr (readerO rq2 cur2)) rfl
    dsimp only
    generalize readerO rq2 cur2 = X2 at *
    generalize readerO rq cur = X at *
    simp -implicitDefEqProofs [bodyR2, hkt, sl0, hrw, p0, tru]
theorem enum_drop (ws : List Str) (k : Nat) (x : Str) (hx : ws[k]? = some x) : (enumD (ws.map .str)).drop k = .tup [.int k, .str x] :: (enumD (ws.map .str)).drop (k + 1) := by
  obtain ⟨hk, e⟩ := List.getElem?_eq_some_iff.mp hx
  have hk' : k < (enumD (ws.map .str)).length := by simp [enumD, hk]
  rw [List.drop_eq_getElem_cons hk']
  congr 1
  simp [enumD, e]
theorem loopR {x0 x3 : D} {w : Int} (ws : List Str) (w0 : 1 ≤ w) (hn : ws.length ≤ 6000000) (hz : ∀ x ∈ ws, x.length ≤ SZ) : ∀ (ls : List Str) (k : Nat) (rq : Stk) (cur : Row) (r : Rho), ws.drop k = ls → k ≤ ws.length → StOk rq cur → RSl x0 (.int w) x3 rq cur r →
    outR2 x0 (.int w) x3 (runW w (codes ls) k rq cur) (forD (g_tup 2 (gs_cons (g_name 4) (gs_cons (g_name 5) gs_nil))) bodyR2 ((enumD (ws.map .str)).drop k) r)
  | [], k, rq, cur, r, hd, hk, h, hr => by
    have : k = ws.length := by
      have := congrArg List.length hd
      simp at this; omega
    rw [this, List.drop_eq_nil_of_le (by simp [enumD])]
    exact ⟨r, rfl, hr⟩
  | x :: ls, k, rq, cur, r, hd, hk, h, hr => by
    have hkl : k < ws.length := by
      have := congrArg List.length hd
      simp at this; omega
    have hx : ws[k]? = some x := by
      have := congrArg (fun z => z[0]?) hd
      simpa using this
    have hd' : ws.drop (k + 1) = ls := by
      have := congrArg (List.drop 1) hd
      simpa using this
    have hzx := hz x (List.mem_of_getElem? hx)
    obtain ⟨s4, s5, rfl, _⟩ := hr
    have ht := turnR (x0 := x0) (x3 := x3) (w := w) (rq := rq) (cur := cur) (k := k) h hzx w0 (by omega)
    rw [enum_drop ws k x hx]
    unfold forD
    have hg : (g_tup 2 (gs_cons (g_name 4) (gs_cons (g_name 5) gs_nil))) (.tup [.int k, .str x]) [.fz x0, .fz (.int w), .tr (readerO rq cur), .fz x3, s4, s5] = some [.fz x0, .fz (.int w), .tr (readerO rq cur), .fz x3, .fz (.int k), .fz (.str x)] := rfl
    rw [hg]
    dsimp only
    simp only [codes, List.map_cons]
    unfold runW
    cases e : stepW w (cl x) rq cur with
    | none =>
      rw [e] at ht
      obtain ⟨r2, e2, l2⟩ := ht
      rw [e2]
      exact ⟨r2, rfl, l2⟩
    | some p =>
      obtain ⟨rq2, cur2⟩ := p
      rw [e] at ht
      dsimp only at ht
      rw [ht]
      exact loopR ws w0 hn hz ls (k + 1) rq2 cur2 _ hd' (by omega) (step_ok h e) ⟨_, _, rfl, .inr ⟨_, _, rfl, rfl⟩⟩
def outT (x : FO) : RS → Prop
  | .bad k => x = .exc 2 [.int k] [.un, .un]
  | .row R => x = .ret (.own (dR R)) [.un, .un]
theorem read_row_ok {t : Str} {w : Int} (ht : t.length ≤ 5000000) (w0 : 1 ≤ w) : outT (M_read_row [.fz (.str t), .fz (.int w)]) (readR w t) := by
  unfold M_read_row
  rw [defM_run (io := []) (np := 2) (nl := 4) (body := B_read_row) rfl rfl]
  have unf : B_read_row = (s_seq (s_if (t_bol (o2 o_eq (p_d (e_var 0)) (p_d (e_c (.str ""))))) (s_retV (v_own (l_lst a_nil))) s_nil)
    (s_seq (s_setV 2 (v_make 4 M_RowReader___init a_nil))
    (s_seq (s_set 3 (e_sm f_split (e_var 0) (a_cons (p_d (e_c (.str " "))) a_nil)))
    (s_seq (s_for (i_enum (a_cons (p_d (e_var 3)) a_nil)) (g_tup 2 (gs_cons (g_name 4) (gs_cons (g_name 5) gs_nil))) bodyR2)
    (s_seq (s_if (t_bor fl (t_bol (o2 o_gt (p_d (os f_len (a_cons (p_d (o1 (o_fld 4 1) (p_d (e_var 2)))) a_nil))) (p_d (e_c (.int 0)))))) (s_exc 2 x_1 (a_cons (p_d (os f_len (a_cons (p_d (e_var 3)) a_nil))) a_nil)) s_nil)
    (s_retV (v_at (pl_ix (0) (pl_fld 4 0 (pl_var 2)))))))))) := rfl
  rw [unf]
  have q0 : ∀ k, decide (t = ("" : Str)) = k → o_eq (.str t) (.str "") = some (.bl k) := fun k h => by rw [eq_str, h]
  unfold readR
  by_cases h0 : t = ("" : Str)
  · rw [if_pos h0]
    have q := q0 true (by simp [h0])
    simp only [outT]
    simp -implicitDefEqProofs [q]
  · rw [if_neg h0]
    have q := q0 false (by simp [h0])
    obtain ⟨k1, k2, k3⟩ := words_ok ht
    generalize Txt.split t " " = ws at *
    have hl : f_len [.lst (ws.map .str)] = some (.int ws.length) := by simp [f_len, seqOf]
    have lp := loopR (x0 := .str t) (x3 := .lst (ws.map .str)) (w := w) ws w0 (by omega) k3 ws 0 [] [] [.fz (.str t), .fz (.int w), .tr (readerO [] []), .fz (.lst (ws.map .str)), .un, .un] (by simp) (by omega) st0 ⟨_, _, rfl, .inl ⟨rfl, rfl⟩⟩
    rw [List.drop_zero] at lp
    have hen : ∀ r : Rho, r[3]? = some (.fz (.lst (ws.map .str))) → (i_enum (a_cons (p_d (e_var 3)) a_nil)) r = .ok (enumD (ws.map .str)) r := fun r h => by
      unfold i_enum
      generalize ws.map D.str = WD at *
      simp -implicitDefEqProofs [h, seqOf]
    have hin := init_ok
    have hmk : (v_make 4 M_RowReader___init a_nil) [.fz (.str t), .fz (.int w), .un, .un, .un, .un] = .ok (.tr (readerO [] [])) [.fz (.str t), .fz (.int w), .un, .un, .un, .un] := by
      have own1 : isOwn (.tr (readerO [] [])) = true := rfl
      have putt : ∀ (r : Rho) (i : Nat) (as : List AD) (os : Rho), put r (.ow i :: as) (.tr (readerO [] []) :: os) = put (r.set i (.tr (readerO [] []))) as os := fun r i as os => rfl
      generalize readerO [] [] = X at *
      simp -implicitDefEqProofs [hin, putt]
    cases hr : runW w (codes ws) 0 [] [] with
    | bad k =>
      rw [hr] at lp
      obtain ⟨r2, e2, l2⟩ := lp
      have kp := keep2 (a := .str t) (b := .int w) l2
      simp only [outT]
      generalize v_make 4 M_RowReader___init a_nil = VM at *
      generalize i_enum (a_cons (p_d (e_var 3)) a_nil) = IE at *
      generalize readerO [] [] = X at *
      generalize ws.map D.str = WD at *
      simp -implicitDefEqProofs [q, k1, hen, e2, kp, hmk]
    | ok rq cur =>
      rw [hr] at lp
      obtain ⟨r2, e2, s4, s5, rfl, h45⟩ := lp
      have hst := run_ok st0 hr
      have hfd : o_fld 4 1 (.ins 4 [.lst (partsD rq cur), .lst (timesD rq)]) = some (.lst (timesD rq)) := rfl
      have hlt := len_times rq
      have hfr : frAll fl [.fz (.str t), .fz (.int w), .tr (readerO rq cur), .fz (.lst (ws.map .str)), s4, s5] = some [.fz (.str t), .fz (.int w), .fz (.ins 4 [.lst (partsD rq cur), .lst (timesD rq)]), .fz (.lst (ws.map .str)), s4, s5] := by
        have h1 := fr_reader rq cur [.fz (.lst (ws.map .str)), s4, s5]
        generalize readerO rq cur = X at *
        rw [frAll_fz, frAll_fz, h1]
        rcases h45 with ⟨rfl, rfl⟩ | ⟨d, e, rfl, rfl⟩ <;> rfl
      dsimp only
      by_cases hq : rq = []
      · rw [if_pos hq]
        subst hq
        have g1 : o_gt (.int (([] : Stk).length : Nat)) (.int 0) = some (.bl false) := rfl
        have hat := at_run (r := [.fz (.str t), .fz (.int w), .tr (readerO [] cur), .fz (.lst (ws.map .str)), s4, s5]) (m := pl_ix (0) (pl_fld 4 0 (pl_var 2))) (i := 2) (p := [0, 0]) (t := readerO [] cur) (o := rowO cur) rfl rfl rfl rfl
        rw [norm_row] at hat
        simp only [outT]
        generalize v_at (pl_ix (0) (pl_fld 4 0 (pl_var 2))) = VA at *
        generalize v_make 4 M_RowReader___init a_nil = VM at *
        generalize i_enum (a_cons (p_d (e_var 3)) a_nil) = IE at *
        generalize (([] : Stk).length : Nat) = N at *
        generalize readerO [] cur = X2 at *
        generalize readerO [] [] = X at *
        generalize ws.map D.str = WD at *
        generalize (D.lst (partsD [] cur)) = W1 at *
        generalize timesD [] = W2 at *
        simp -implicitDefEqProofs [q, k1, hen, e2, hmk, hfr, hfd, hlt, g1, hat]
      · rw [if_neg hq]
        have g1 : o_gt (.int (rq.length : Nat)) (.int 0) = some (.bl true) := by
          have : 0 < rq.length := List.length_pos_iff.mpr hq
          simp only [o_gt, o_icmp]; rw [decide_eq_true (by omega)]
        have hx1 := fVal_nat ws.length (by omega)
        simp only [outT]
        generalize v_make 4 M_RowReader___init a_nil = VM at *
        generalize i_enum (a_cons (p_d (e_var 3)) a_nil) = IE at *
        generalize (rq.length : Nat) = N at *
        generalize readerO rq cur = X2 at *
        generalize readerO [] [] = X at *
        generalize ws.map D.str = WD at *
        generalize (D.lst (partsD rq cur)) = W1 at *
        generalize timesD rq = W2 at *
        simp -implicitDefEqProofs [q, k1, hl, hen, e2, hmk, hfr, hfd, hlt, g1, hx1]
end Gk
set_option linter.all false
set_option maxRecDepth 100000
set_option maxHeartbeats 4000000
namespace Gk
open PySem L2 Ml
/-- the body of the loop of _law_same -/
def bodyS (M : Rho → FO) : SM := (s_if (t_not (o1 tru (p_d (e_call M (a_cons (p_d (o2 o_ix (p_d (e_var 0)) (p_d (e_var 2)))) (a_cons (p_d (o2 o_ix (p_d (e_var 1)) (p_d (e_var 2)))) a_nil)))))) (s_ret (e_c (.bl false))) s_nil)
theorem loopS {M : Rho → FO} {d : D} {ds : List D} (hx : ∀ (i : Nat) (x : D), ds[i]? = some x → o_ix d (.int i) = some x) (h : ∀ x ∈ ds, M [.fz x, .fz x] = .ret (.fz (.bl true)) [.un, .un]) : ∀ (n k : Nat) (s : Slot), k + n = ds.length → ∃ s', forD (g_name 2) (bodyS M) ((rngD 0 ds.length).drop k) [.fz d, .fz d, s] = .nx [.fz d, .fz d, s']
  | 0, k, s, hk => by
    rw [show k = ds.length by omega, rng_end]
    exact ⟨s, rfl⟩
  | n + 1, k, s, hk => by
    have hkl : k < ds.length := by omega
    have e1 := hx k ds[k] (List.getElem?_eq_getElem hkl)
    have e2 := h ds[k] (List.getElem_mem hkl)
    obtain ⟨s', e⟩ := loopS hx h n (k + 1) (.fz (.int k)) (by omega)
    refine ⟨s', ?_⟩
    rw [rng_drop _ _ hkl]
    unfold forD
    simp only [g_name, List.set_cons_succ, List.set_cons_zero]
    have st : bodyS M [.fz d, .fz d, .fz (.int k)] = .nx [.fz d, .fz d, .fz (.int k)] := by
      simp -implicitDefEqProofs [bodyS, e1, e2, tru]
    rw [st]
    exact e
theorem same_seq {n : Nat} {d : D} {ds : List D} (b : Bool) (hd : d = (if b then .tup ds else .lst ds)) (hl : ds.length ≤ 10000000) (h : ∀ x ∈ ds, M_law_same n [.fz x, .fz x] = .ret (.fz (.bl true)) [.un, .un]) : M_law_same (n + 1) [.fz d, .fz d] = .ret (.fz (.bl true)) [.un, .un] := by
  have hx : ∀ (i : Nat) (x : D), ds[i]? = some x → o_ix d (.int i) = some x := fun i x e => by
    have := atI_nat e
    cases b <;> (subst hd; exact this)
  obtain ⟨s', e⟩ := loopS hx h ds.length 0 .un (by omega)
  rw [List.drop_zero] at e
  unfold M_law_same
  rw [defM_run (io := []) (np := 2) (nl := 1) (body := B_law_same (M_law_same n)) rfl rfl]
  have fl : f_len [d] = some (.int ds.length) := by cases b <;> (subst hd; simp [f_len, seqOf])
  have hi : inRng (ds.length : Int) = true := by simp [inRng]; omega
  have hne : o_ne (.int (ds.length : Int)) (.int ds.length) = some (.bl false) := by simp [o_ne, o_eq]
  have n1 : o_isN d .non = some (.bl false) := by cases b <;> (subst hd; rfl)
  have n2 : ∀ k, o_isB d (.bl k) = some (.bl false) := fun k => by cases b <;> (subst hd; rfl)
  have n3 : o_isi "int" d = some (.bl false) := by cases b <;> (subst hd; rfl)
  have n4 : o_isi "str" d = some (.bl false) := by cases b <;> (subst hd; rfl)
  have n5 : o_isi "tuple" d = some (.bl b) := by cases b <;> (subst hd; rfl)
  have n6 : o_isi "list" d = some (.bl !b) := by cases b <;> (subst hd; rfl)
  have unf : B_law_same (M_law_same n) = (s_seq (s_if (t_bol (o2 o_isN (p_d (e_var 1)) (p_d (e_c .non)))) (s_ret (o2 o_isN (p_d (e_var 0)) (p_d (e_c .non)))) s_nil)
    (s_seq (s_if (t_or (t_bol (o2 o_isB (p_d (e_var 1)) (p_d (e_c (.bl true))))) (t_bol (o2 o_isB (p_d (e_var 1)) (p_d (e_c (.bl false)))))) (s_ret (e_and (o1 (o_isi "bool") (p_d (e_var 0))) (o2 o_eq (p_d (e_var 0)) (p_d (e_var 1))))) s_nil)
    (s_seq (s_if (o1 tru (p_d (o1 (o_isi "int") (p_d (e_var 1))))) (s_ret (e_and (e_call M_law_is_int (a_cons (p_d (e_var 0)) a_nil)) (o2 o_eq (p_d (e_var 0)) (p_d (e_var 1))))) s_nil)
    (s_seq (s_if (o1 tru (p_d (o1 (o_isi "str") (p_d (e_var 1))))) (s_ret (e_and (o1 (o_isi "str") (p_d (e_var 0))) (o2 o_eq (p_d (e_var 0)) (p_d (e_var 1))))) s_nil)
    (s_seq (s_if (t_and (o1 tru (p_d (o1 (o_isi "tuple") (p_d (e_var 1))))) (t_not (o1 tru (p_d (o1 (o_isi "tuple") (p_d (e_var 0))))))) (s_ret (e_c (.bl false))) s_nil)
    (s_seq (s_if (t_and (o1 tru (p_d (o1 (o_isi "list") (p_d (e_var 1))))) (t_not (o1 tru (p_d (o1 (o_isi "list") (p_d (e_var 0))))))) (s_ret (e_c (.bl false))) s_nil)
    (s_seq (s_if (t_bol (o2 o_ne (p_d (os f_len (a_cons (p_d (e_var 0)) a_nil))) (p_d (os f_len (a_cons (p_d (e_var 1)) a_nil))))) (s_ret (e_c (.bl false))) s_nil)
    (s_seq (s_for (i_rng1 (a_cons (p_d (os f_len (a_cons (p_d (e_var 1)) a_nil))) a_nil)) (g_name 2) (bodyS (M_law_same n)))
    (s_ret (e_c (.bl true))))))))))) := rfl
  rw [unf]
  generalize bodyS (M_law_same n) = BS at *
  cases b <;> simp -implicitDefEqProofs [n1, n2, n3, n4, n5, n6, tru, fl, hi, hne, e]
theorem same_coming (n : Nat) (c : List Int) (hc : c.length ≤ 1000) : M_law_same (n + 2) [.fz (dC c), .fz (dC c)] = .ret (.fz (.bl true)) [.un, .un] :=
  same_seq true rfl (by simp; omega) fun x m => by
    obtain ⟨v, _, rfl⟩ := List.mem_map.mp m
    rw [same_int]; simp
theorem same_row (n : Nat) (R : Row) (hR : R.length ≤ 10000) (hc : ∀ c ∈ R, c.length ≤ 1000) : M_law_same (n + 3) [.fz (.lst (dR R)), .fz (.lst (dR R))] = .ret (.fz (.bl true)) [.un, .un] :=
  same_seq false rfl (by simp; omega) fun x m => by
    obtain ⟨c, mc, rfl⟩ := List.mem_map.mp m
    exact same_coming n c (hc c mc)
/-- comings of a row read are short -/
def Sh (rq : Stk) (cur : Row) : Prop := (∀ p ∈ rq, ∀ c ∈ p.1, c.length ≤ 1000) ∧ ∀ c ∈ cur, c.length ≤ 1000
theorem rep_mem {C : Row} {t : Int} {c : List Int} (h : c ∈ rep C t) : c ∈ C := by
  unfold rep at h
  obtain ⟨l, ml, mc⟩ := List.mem_flatten.mp h
  rw [(List.mem_replicate.mp ml).2] at mc
  exact mc
theorem step_sh {w : Int} {l : List Nat} {rq rq' : Stk} {cur cur' : Row} (w0 : w ≤ 30) (h : Sh rq cur) (e : stepW w l rq cur = some (rq', cur')) : Sh rq' cur' := by
  unfold stepW at e
  split at e
  · unfold closeW at e
    split at e
    · cases e
    · split at e
      · cases e
      · cases e
        refine ⟨fun p m => h.1 p (List.mem_cons_of_mem _ m), fun c m => ?_⟩
        rcases List.mem_append.mp m with m | m
        · exact h.1 _ List.mem_cons_self c m
        · exact h.2 c (rep_mem m)
  · split at e
    · cases e
    · split at e
      · unfold openW at e
        split at e
        · cases e
        · cases e
          refine ⟨fun p m => ?_, fun c m => by cases m⟩
          rcases List.mem_cons.mp m with rfl | m
          · exact h.2
          · exact h.1 p m
      · split at e
        · cases e
        · rename_i c hd
          unfold addW at e
          split at e
          · cases e
          · cases e
            refine ⟨h.1, fun x m => ?_⟩
            rcases List.mem_append.mp m with m | m
            · exact h.2 x m
            · have := rep_mem m
              rw [List.mem_singleton] at this
              have := (digOf_Dig w0 hd).1
              subst x
              omega
theorem run_sh {w : Int} (w0 : w ≤ 30) : ∀ {ls : List (List Nat)} {k : Nat} {rq rq' : Stk} {cur cur' : Row}, Sh rq cur → runW w ls k rq cur = .ok rq' cur' → Sh rq' cur'
  | [], k, rq, rq', cur, cur', h, e => by cases e; exact h
  | l :: ls, k, rq, rq', cur, cur', h, e => by
    unfold runW at e
    split at e
    · cases e
    · rename_i rq2 cur2 e2
      exact run_sh w0 (step_sh w0 h e2) e
theorem readR_sh {w : Int} {t : Str} {R : Row} (w0 : w ≤ 30) (e : readR w t = .row R) : R.length ≤ 1000 ∧ ∀ c ∈ R, c.length ≤ 1000 := by
  unfold readR at e
  split at e
  · cases e; exact ⟨by simp, fun c m => by cases m⟩
  · split at e
    · cases e
    · rename_i rq cur h
      split at e
      · rename_i hq
        cases e
        have h1 := (run_ok st0 h).tot
        subst hq
        exact ⟨h1, (run_sh w0 (show Sh [] [] from ⟨fun p m => (by cases m), fun c m => (by cases m)⟩) h).2⟩
      · cases e
theorem run_bad {w : Int} : ∀ {ls : List (List Nat)} {k j : Nat} {rq : Stk} {cur : Row}, runW w ls k rq cur = .bad j → j < k + ls.length
  | [], k, j, rq, cur, e => by cases e
  | l :: ls, k, j, rq, cur, e => by
    unfold runW at e
    split at e
    · cases e; simp
    · have := run_bad e
      simp; omega
theorem readR_bad {w : Int} {t : Str} {k : Nat} (ht : t.length ≤ 5000000) (e : readR w t = .bad k) : k ≤ 6000000 := by
  have hw := (words_ok ht).2.1
  unfold readR at e
  split at e
  · cases e
  · cases h : runW w (codes (Txt.split t " ")) 0 [] [] with
    | bad j =>
      rw [h] at e
      cases e
      have := run_bad h
      simp [codes] at this
      omega
    | ok rq cur =>
      rw [h] at e
      dsimp only at e
      split at e
      · cases e
      · cases e; omega
theorem asked_bad {t : Str} {w : Int} {k : Nat} (ht : t.length ≤ 5000000) (w0 : 1 ≤ w) (e : readR w t = .bad k) : M_law_asked [.fz (.str t), .fz (.int w)] = .ret (.fz (.tup [.str "bad", .int k, .bl true])) [.un, .un] := by
  have hr := read_row_ok ht w0
  rw [e] at hr
  simp only [outT] at hr
  unfold M_law_asked
  rw [defM_run (io := []) (np := 2) (nl := 2) (body := B_law_asked) rfl rfl]
  have h1 : hit_BadWord 2 = some true := rfl
  have h2 : xis_BadWord_ValueError 2 = some true := rfl
  have h3 : xis_BadWord_BadLine 2 = some false := rfl
  simp -implicitDefEqProofs [B_law_asked, hr, h1, h2, h3]
theorem asked_row {t : Str} {w : Int} {R : Row} (ht : t.length ≤ 5000000) (w0 : 1 ≤ w) (e : readR w t = .row R) : M_law_asked [.fz (.str t), .fz (.int w)] = .ret (.tr (.tup [.fz (.str "row"), rowO R, .fz (.bl true)])) [.un, .un] := by
  have hr := read_row_ok ht w0
  rw [e] at hr
  simp only [outT] at hr
  unfold M_law_asked
  rw [defM_run (io := []) (np := 2) (nl := 2) (body := B_law_asked) rfl rfl]
  unfold rowO
  generalize dR R = X at *
  simp -implicitDefEqProofs [B_law_asked, hr]
theorem base_bad {t : Str} {w : Int} {k : Nat} (ht : t.length ≤ 5000000) (w0 : 1 ≤ w) (e : readR w t = .bad k) : M_law_base_told [.fz (.str t), .fz (.int w)] = .ret (.fz (.bl true)) [.un, .un] := by
  have hr := read_row_ok ht w0
  rw [e] at hr
  simp only [outT] at hr
  unfold M_law_base_told
  rw [defM_run (io := []) (np := 2) (nl := 2) (body := B_law_base_told) rfl rfl]
  have h1 : hit_LightsError 2 = some true := rfl
  have h2 : xis_LightsError_ValueError 2 = some true := rfl
  have x_doV' : ∀ (mv : EM Slot) (r : Rho), s_doV mv r = (mv r).seq kdoV := fun _ _ => rfl
  simp -implicitDefEqProofs [B_law_base_told, hr, h1, h2, x_doV']
theorem read_right_ok {t : Str} {w : Int} (ht : t.length ≤ 5000000) (w0 : 1 ≤ w) (w1 : w ≤ 30) : M_law_read_right [.fz (.str t), .fz (.int w)] = .ret (.fz (.bl true)) [.un, .un] := by
  have hl := law_read_ok ht w1
  have hrun := defM_run (io := []) (np := 2) (nl := 3) (body := B_law_read_right) (ss := [.fz (.str t), .fz (.int w)]) rfl rfl
  unfold M_law_read_right
  rw [hrun]
  cases e : readR w t with
  | bad k =>
    have ha := asked_bad ht w0 e
    have hb := base_bad ht w0 e
    rw [e] at hl
    simp only [rsD] at hl
    have hs : M_law_same 6 [.fz (.int k), .fz (.int k)] = .ret (.fz (.bl true)) [.un, .un] := (same_int 5 k k).trans (by simp)
    have i0 : o_ix (.tup [.str "bad", .int k, .bl true]) (.int 0) = some (.str "bad") := by simp [o_ix, seqOf, L2.atI, L2.ixN]
    have i1 : o_ix (.tup [.str "bad", .int k, .bl true]) (.int 1) = some (.int k) := by simp [o_ix, seqOf, L2.atI, L2.ixN]
    have i2 : o_ix (.tup [.str "bad", .int k, .bl true]) (.int 2) = some (.bl true) := by simp [o_ix, seqOf, L2.atI, L2.ixN]
    have j0 : o_ix (.tup [.str "bad", .int k]) (.int 0) = some (.str "bad") := by simp [o_ix, seqOf, L2.atI, L2.ixN]
    have j1 : o_ix (.tup [.str "bad", .int k]) (.int 1) = some (.int k) := by simp [o_ix, seqOf, L2.atI, L2.ixN]
    have ne : o_ne (.str "bad") (.str "bad") = some (.bl false) := by simp [o_ne, o_eq]
    have eq : o_eq (.str "bad") (.str "bad") = some (.bl true) := by simp [o_eq]
    generalize (D.tup [.str "bad", .int k, .bl true]) = D3 at *
    generalize (D.tup [.str "bad", .int k]) = D2 at *
    simp -implicitDefEqProofs [B_law_read_right, hl, ha, hb, i0, i1, i2, j0, j1, ne, eq, tru, hs]
  | row R =>
    have ha := asked_row ht w0 e
    obtain ⟨hR, hc⟩ := readR_sh w1 e
    rw [e] at hl
    simp only [rsD] at hl
    have hs := same_row 3 R (by omega) hc
    have j0 : o_ix (.tup [.str "row", .lst (dR R)]) (.int 0) = some (.str "row") := by simp [o_ix, seqOf, L2.atI, L2.ixN]
    have j1 : o_ix (.tup [.str "row", .lst (dR R)]) (.int 1) = some (.lst (dR R)) := by simp [o_ix, seqOf, L2.atI, L2.ixN]
    have i0 : ∀ X : D, o_ix (.tup [.str "row", X, .bl true]) (.int 0) = some (.str "row") := fun X => by simp [o_ix, seqOf, L2.atI, L2.ixN]
    have i1 : ∀ X : D, o_ix (.tup [.str "row", X, .bl true]) (.int 1) = some X := fun X => by simp [o_ix, seqOf, L2.atI, L2.ixN]
    have i2 : ∀ X : D, o_ix (.tup [.str "row", X, .bl true]) (.int 2) = some (.bl true) := fun X => by simp [o_ix, seqOf, L2.atI, L2.ixN]
    have ne : o_ne (.str "row") (.str "row") = some (.bl false) := by simp [o_ne, o_eq]
    have eqb : o_eq (.str "row") (.str "bad") = some (.bl false) := by
      have : ("row" : Str) ≠ "bad" := by decide +kernel
      simp [o_eq, this]
    have eqr : o_eq (.str "row") (.str "row") = some (.bl true) := by simp [o_eq]
    have eqR : o_eq (.lst (dR R)) (.lst (dR R)) = some (.bl true) := by rw [eq_dR]; simp
    have hd : ∀ R : Row, O.data fl (.tup [.fz (.str "row"), rowO R, .fz (.bl true)]) = some (.tup [.str "row", .lst (dR R), .bl true]) := fun R => by
      have h1 : O.data fl (rowO R) = some (.lst (dR R)) := data_lst (datas_fz _)
      unfold O.data O.datas O.datas O.datas O.datas
      rw [h1]
      simp [O.data]
    -- told[1].append(..)
    have hm : o_mul (.lst [.int 2]) (.int w) = some (.lst (List.replicate w.toNat (.int 2))) := by
      unfold o_mul
      dsimp only
      rw [if_pos (by refine ⟨by omega, by omega, ?_⟩; simp; unfold SZ; omega)]
      unfold repD
      congr 2
      induction w.toNat with
      | zero => rfl
      | succ n ih => rw [List.replicate_succ, List.flatten_cons, ih]; rfl
    have htp : f_tuple [.lst (List.replicate w.toNat (.int 2))] = some (dC (List.replicate w.toNat 2)) := by
      show some (D.tup (List.replicate w.toNat (.int 2))) = _
      simp [dC, List.map_replicate]
    let c2 : List Int := List.replicate w.toNat 2
    have hlR : f_len [.lst (dR R)] = some (.int R.length) := len_dR R
    have hl2 : f_len [.lst (dR (R ++ [c2]))] = some (.int (R.length + 1)) := by rw [len_dR]; simp
    have hap : ∀ (x0 x1 x2 : D), e_pm (pl_ix (1) (pl_var 3)) g_append (a_cons (p_d (os f_tuple (a_cons (p_d (o2 o_mul (p_d (e_lst (l_lst (a_cons (p_d (e_c (.int 2))) a_nil)))) (p_d (e_var 1)))) a_nil))) a_nil) [.fz x0, .fz (.int w), .fz x2, .tr (.tup [.fz (.str "row"), rowO R, .fz (.bl true)]), .un] = .ok .non [.fz x0, .fz (.int w), .fz x2, .tr (.tup [.fz (.str "row"), rowO (R ++ [c2]), .fz (.bl true)]), .un] := fun x0 x1 x2 => by
      have run := pm_run (r := [.fz x0, .fz (.int w), .fz x2, .tr (.tup [.fz (.str "row"), rowO R, .fz (.bl true)]), .un]) (m := pl_ix (1) (pl_var 3)) (f := g_append) (args := (a_cons (p_d (os f_tuple (a_cons (p_d (o2 o_mul (p_d (e_lst (l_lst (a_cons (p_d (e_c (.int 2))) a_nil)))) (p_d (e_var 1)))) a_nil))) a_nil)) (i := 3) (p := [1]) (ts := (dR R).map .fz) rfl rfl rfl rfl (as := [.d (dC c2)]) (r2 := [.fz x0, .fz (.int w), .fz x2, .un, .un]) (by
        generalize dC c2 = Z at *
        simp -implicitDefEqProofs [hm, htp]) rfl (ds := [dC c2]) (z := .non) (ts' := (dR (R ++ [c2])).map .fz) (by
        simp only [g_append]
        rw [if_pos (by simp; unfold SZ; omega)]
        simp)
      exact run
    have hd1 := hd R
    have hd2 := hd (R ++ [c2])
    have hno : ∀ (R : Row) (d : D), O.tup [.fz (.str "row"), rowO R, .fz (.bl true)] ≠ .fz d := fun R d h => by cases h
    have fr1 : ∀ r : Rho, frAll fl (.tr (.tup [.fz (.str "row"), rowO R, .fz (.bl true)]) :: r) = kfa (.fz (.tup [.str "row", .lst (dR R), .bl true])) (frAll fl r) := fun r => frAll_tr (hno R) hd1
    have fr2 : ∀ r : Rho, frAll fl (.tr (.tup [.fz (.str "row"), rowO (R ++ [c2]), .fz (.bl true)]) :: r) = kfa (.fz (.tup [.str "row", .lst (dR (R ++ [c2])), .bl true])) (frAll fl r) := fun r => frAll_tr (hno _) hd2
    have kt : ∀ (r : Rho), kfv fl (.tr (.tup [.fz (.str "row"), rowO R, .fz (.bl true)])) r = .ok (.tup [.str "row", .lst (dR R), .bl true]) r := fun r => by
      rw [kfv_tup, hd1]; rfl
    have hap' := hap (.str t) .non (.tup [.str "row", .lst (dR R)])
    have a1 : o_add (.int (R.length : Int)) (.int 1) = some (.int (R.length + 1)) := rfl
    have eL : o_eq (.int ((R.length : Int) + 1)) (.int ((R.length : Int) + 1)) = some (.bl true) := by simp [o_eq]
    have hB : B_law_read_right = (s_seq (s_set 2 (e_call M_law_read (a_cons (p_d (e_var 0)) (a_cons (p_d (e_var 1)) a_nil))))
    (s_seq (s_setV 3 (v_call M_law_asked (a_cons (p_d (e_var 0)) (a_cons (p_d (e_var 1)) a_nil))))
    (s_seq (s_if (t_bor fl (t_or (t_bol (o2 o_ne (p_d (o2 o_ix (p_d (e_var 3)) (p_d (e_c (.int 0))))) (p_d (o2 o_ix (p_d (e_var 2)) (p_d (e_c (.int 0))))))) (t_or (t_not (o1 tru (p_d (o2 o_ix (p_d (e_var 3)) (p_d (e_c (.int 2))))))) (t_not (o1 tru (p_d (e_call (M_law_same 6) (a_cons (p_d (o2 o_ix (p_d (e_var 3)) (p_d (e_c (.int 1))))) (a_cons (p_d (o2 o_ix (p_d (e_var 2)) (p_d (e_c (.int 1))))) a_nil))))))))) (s_ret (e_c (.bl false))) s_nil)
    (s_seq (s_if (t_bol (o2 o_eq (p_d (o2 o_ix (p_d (e_var 2)) (p_d (e_c (.int 0))))) (p_d (e_c (.str "bad"))))) (s_ret (e_call M_law_base_told (a_cons (p_d (e_var 0)) (a_cons (p_d (e_var 1)) a_nil)))) s_nil)
    (s_seq (s_do (e_pm (pl_ix (1) (pl_var 3)) g_append (a_cons (p_d (os f_tuple (a_cons (p_d (o2 o_mul (p_d (e_lst (l_lst (a_cons (p_d (e_c (.int 2))) a_nil)))) (p_d (e_var 1)))) a_nil))) a_nil)))
    (s_seq (s_set 4 (e_frzV fl (v_call M_law_asked (a_cons (p_d (e_var 0)) (a_cons (p_d (e_var 1)) a_nil)))))
    (s_ret (e_bor fl (e_and (o2 o_eq (p_d (o2 o_ix (p_d (e_var 4)) (p_d (e_c (.int 0))))) (p_d (e_c (.str "row")))) (e_and (o2 o_eq (p_d (o2 o_ix (p_d (e_var 4)) (p_d (e_c (.int 1))))) (p_d (o2 o_ix (p_d (e_var 2)) (p_d (e_c (.int 1)))))) (o2 o_eq (p_d (os f_len (a_cons (p_d (o2 o_ix (p_d (e_var 3)) (p_d (e_c (.int 1))))) a_nil))) (p_d (o2 o_add (p_d (os f_len (a_cons (p_d (o2 o_ix (p_d (e_var 2)) (p_d (e_c (.int 1))))) a_nil))) (p_d (e_c (.int 1)))))))))))))))) := rfl
    rw [hB]
    generalize hEP : e_pm (pl_ix (1) (pl_var 3)) g_append (a_cons (p_d (os f_tuple (a_cons (p_d (o2 o_mul (p_d (e_lst (l_lst (a_cons (p_d (e_c (.int 2))) a_nil)))) (p_d (e_var 1)))) a_nil))) a_nil) = EP at *
    clear hap hd hd1 hd2 hno hm htp
    generalize rowO (R ++ [c2]) = O2 at *
    generalize rowO R = O1 at *
    generalize dR (R ++ [c2]) = X2 at *
    generalize dR R = X1 at *
    generalize M_law_same 6 = MS at *
    have hs' : MS [.fz (.lst X1), .fz (.lst X1)] = .ret (.fz (.bl true)) [.un, .un] := hs
    simp -implicitDefEqProofs [hl, ha, j0, j1, i0, i1, i2, ne, eqb, eqr, eqR, tru, hs', fr1, fr2, kt, hap', hlR, hl2, a1, eL]
end Gk
set_option linter.all false
set_option maxRecDepth 100000
set_option maxHeartbeats 4000000
namespace Gk
open PySem L2 Ml
theorem hand_hs (ns : List Int) (k : Nat) : ∃ x : HS, M_law_hand [.fz (.ro false (ns.map D.int)), .fz (.int k)] = .ret (hs x) [.un, .un] := by
  obtain ⟨h, ⟨a, b, c, d, rfl⟩, e⟩ := hand_ok ns k
  exact ⟨⟨a, b, c, d⟩, e⟩
theorem law_ok (ns : List Int) : ∃ outs, M_law [.fz (.ro false (ns.map D.int))] = .ret (.fz (.bl true)) outs := by
  refine ⟨[.un], ?_⟩
  unfold M_law
  rw [defM_run (io := []) (np := 1) (nl := 3) (body := B_law) rfl rfl]
  obtain ⟨x, h0⟩ := hand_hs ns 0
  obtain ⟨z, h1⟩ := hand_hs ns 1
  generalize D.ro false (ns.map D.int) = NS at *
  have h1' : M_law_hand [.fz NS, .fz (.int 1)] = .ret (hs z) [.un, .un] := h1
  have v0 := x.val_nonneg (m := 4) (by decide)
  have v1 := x.val_lt (m := 4) (by decide)
  have u0 := ((x.next 4).next 8).val_nonneg (m := 24) (by decide)
  have u1 := ((x.next 4).next 8).val_lt (m := 24) (by decide)
  have lh : ∀ (k : Nat) (y : HS), M_law_hand [.fz NS, .fz (.int k)] = .ret (hs y) [.un, .un] → ∀ r : Rho, r[0]? = some (.fz NS) → (l_call M_law_hand (a_cons (p_d (e_var 0)) (a_cons (p_d (e_c (.int k))) a_nil))) r = .ok [.int y.a, .int y.b, .int y.c, .int y.s] r := fun k y h r hr => by
    have kl : ∀ r : Rho, kol (hs y) r = .ok [.int y.a, .int y.b, .int y.c, .int y.s] r := fun _ => rfl
    simp -implicitDefEqProofs [hr, h, kl]
  have lh0 := lh 0 x h0
  have own_x : Slot.own [.int x.a, .int x.b, .int x.c, .int x.s] = hs x := rfl
  -- behind the width
  have rest : ∀ (y : HS) (w : Int), 1 ≤ w → w ≤ 24 → ∃ r2 : Rho, (s_seq (s_set 3 (e_call M_law_row (a_cons (p_ow 1) (a_cons (p_d (e_var 2)) a_nil))))
    (s_seq (s_if (t_or (t_not (o1 tru (p_d (e_call M_law_written_right (a_cons (p_d (e_var 3)) a_nil))))) (t_not (o1 tru (p_d (e_call M_law_read_right (a_cons (p_d (e_call M_law_written (a_cons (p_d (e_var 3)) a_nil))) (a_cons (p_d (e_var 2)) a_nil))))))) (s_ret (e_c (.bl false))) s_nil)
    (s_ret (e_call M_law_read_right (a_cons (p_d (e_ofV (v_callV M_law_text (v_call M_law_hand (a_cons (p_d (e_var 0)) (a_cons (p_d (e_c (.int 1))) a_nil))) (a_cons (p_d (e_var 2)) (a_cons (p_d (e_var 3)) a_nil))))) (a_cons (p_d (e_var 2)) a_nil)))))) [.fz NS, hs y, .fz (.int w), .un] = .rt (.fz (.bl true)) r2 ∧ 1 ≤ r2.length := by
    intro y w w0 w1
    obtain ⟨R, y2, hR, eR⟩ := row_hs y w w0 w1
    have eW := written_right hR
    have eT := written_ok hR
    have eRR := read_right_ok (t := RT R) (w := w) (Nat.le_trans (RT_len hR) (by decide)) w0 (by omega)
    obtain ⟨s1, o1, e1, t1, y3, rfl, l1, rfl⟩ := text_hs z w (by omega) (by omega) R hR
    have eR2 := read_right_ok (t := t1) (w := w) l1 w0 (by omega)
    refine ⟨[.fz NS, hs y2, .fz (.int w), .fz (.lst (dR R))], ?_, by simp⟩
    generalize dR R = X at *
    simp -implicitDefEqProofs [eR, eW, eT, eRR, e1, eR2, tru, h1']
  have hB : B_law = (s_seq (s_own 1 (l_call M_law_hand (a_cons (p_d (e_var 0)) (a_cons (p_d (e_c (.int 0))) a_nil))))
    (s_seq (s_set 2 (o2 o_add (p_d (e_c (.int 1))) (p_d (e_call M_law_take (a_cons (p_ow 1) (a_cons (p_d (e_c (.int 4))) a_nil))))))
    (s_seq (s_if (t_bol (o2 o_eq (p_d (e_call M_law_take (a_cons (p_ow 1) (a_cons (p_d (e_c (.int 8))) a_nil)))) (p_d (e_c (.int 0))))) (s_set 2 (o2 o_add (p_d (e_c (.int 1))) (p_d (e_call M_law_take (a_cons (p_ow 1) (a_cons (p_d (e_c (.int 24))) a_nil)))))) s_nil)
    (s_seq (s_set 3 (e_call M_law_row (a_cons (p_ow 1) (a_cons (p_d (e_var 2)) a_nil))))
    (s_seq (s_if (t_or (t_not (o1 tru (p_d (e_call M_law_written_right (a_cons (p_d (e_var 3)) a_nil))))) (t_not (o1 tru (p_d (e_call M_law_read_right (a_cons (p_d (e_call M_law_written (a_cons (p_d (e_var 3)) a_nil))) (a_cons (p_d (e_var 2)) a_nil))))))) (s_ret (e_c (.bl false))) s_nil)
    (s_ret (e_call M_law_read_right (a_cons (p_d (e_ofV (v_callV M_law_text (v_call M_law_hand (a_cons (p_d (e_var 0)) (a_cons (p_d (e_c (.int 1))) a_nil))) (a_cons (p_d (e_var 2)) (a_cons (p_d (e_var 3)) a_nil))))) (a_cons (p_d (e_var 2)) a_nil))))))))) := rfl
  rw [hB]
  have kp : ∀ r : Rho, 1 ≤ r.length → keepO [.fz NS] r = [.un] := fun r h => by
    match r, h with
    | s :: r, _ => simp
  generalize (s_seq (s_set 3 (e_call M_law_row (a_cons (p_ow 1) (a_cons (p_d (e_var 2)) a_nil)))) _) = BT at *
  have lh0' : (l_call M_law_hand (a_cons (p_d (e_var 0)) (a_cons (p_d (e_c (.int 0))) a_nil))) [.fz NS, .un, .un, .un] = .ok [.int x.a, .int x.b, .int x.c, .int x.s] [.fz NS, .un, .un, .un] := lh0 [.fz NS, .un, .un, .un] rfl
  generalize (l_call M_law_hand (a_cons (p_d (e_var 0)) (a_cons (p_d (e_c (.int 0))) a_nil))) = LH at *
  by_cases h8 : (x.next 4).val 8 = 0
  · obtain ⟨r2, e2, l2⟩ := rest (((x.next 4).next 8).next 24) (1 + ((x.next 4).next 8).val 24) (by omega) (by omega)
    have kp' := kp r2 l2
    simp -implicitDefEqProofs [lh0', own_x, take_hs, o_add, o_eq, h8, e2, kp']
  · obtain ⟨r2, e2, l2⟩ := rest ((x.next 4).next 8) (1 + x.val 4) (by omega) (by omega)
    have kp' := kp r2 l2
    simp -implicitDefEqProofs [lh0', own_x, take_hs, o_add, o_eq, h8, e2, kp']
theorem right : Right := fun ns _ _ => law_ok ns
end Gk
open PySem PySem.W PyProof.Rows
set_option maxRecDepth 100000 in
set_option maxHeartbeats 0 in
theorem PySem.Challenge.cw_crossinglights_k91_row_text_holds : PySem.Challenge.rw_crossinglights_k91_row_text.Holds := by
  w_on; o_law; k_head; (case hw => w_witness2)
  k_fill
  refine Gk.walk (l := PySem.Challenge.rw_crossinglights_k91_row_text) rfl rfl (fun w h Y => PySem.W.kIn_of Y) ?F
  case F =>
    intro w mg fa h KX G hmg
    refine' Gk.all_mk Gk.right KX G hmg ?a_LightsError ?a_BadWord ?a_BadLine ?a_RowReader ?a_number_of ?l_number_of ?c_number_of ?k_number_of ?a_comings_word ?l_comings_word ?c_comings_word ?k_comings_word ?a_row_text ?l_row_text ?c_row_text ?k_row_text ?a_comings_of ?l_comings_of ?c_comings_of ?k_comings_of ?a_split_word ?l_split_word ?c_split_word ?k_split_word ?a_RowReader___init ?i_RowReader___init ?l_RowReader___init ?c_RowReader___init ?k_RowReader___init ?a_RowReader_room ?i_RowReader_room ?l_RowReader_room ?c_RowReader_room ?k_RowReader_room ?a_RowReader_add ?i_RowReader_add ?l_RowReader_add ?c_RowReader_add ?k_RowReader_add ?a_RowReader_end_group ?i_RowReader_end_group ?l_RowReader_end_group ?c_RowReader_end_group ?k_RowReader_end_group ?a_RowReader_begin_group ?i_RowReader_begin_group ?l_RowReader_begin_group ?c_RowReader_begin_group ?k_RowReader_begin_group ?a_RowReader_read_word ?i_RowReader_read_word ?l_RowReader_read_word ?c_RowReader_read_word ?k_RowReader_read_word ?a_read_row ?l_read_row ?c_read_row ?k_read_row ?a_law_cell ?l_law_cell ?c_law_cell ?k_law_cell ?a_law_hand ?l_law_hand ?c_law_hand ?k_law_hand ?a_law_take ?l_law_take ?c_law_take ?k_law_take ?a_law_some ?l_law_some ?c_law_some ?k_law_some ?a_law_is_int ?l_law_is_int ?c_law_is_int ?k_law_is_int ?a_law_same ?l_law_same ?c_law_same ?k_law_same ?a_law_stretch ?l_law_stretch ?c_law_stretch ?k_law_stretch ?a_law_written ?l_law_written ?c_law_written ?k_law_written ?a_law_count ?l_law_count ?c_law_count ?k_law_count ?a_law_digits ?l_law_digits ?c_law_digits ?k_law_digits ?a_law_read ?l_law_read ?c_law_read ?k_law_read ?a_law_row ?l_law_row ?c_law_row ?k_law_row ?a_law_plain_word ?l_law_plain_word ?c_law_plain_word ?k_law_plain_word ?a_law_number_word ?l_law_number_word ?c_law_number_word ?k_law_number_word ?a_law_word ?l_law_word ?c_law_word ?k_law_word ?a_law_nest ?l_law_nest ?c_law_nest ?k_law_nest ?a_law_edge ?l_law_edge ?c_law_edge ?k_law_edge ?a_law_sign ?l_law_sign ?c_law_sign ?k_law_sign ?a_law_text ?l_law_text ?c_law_text ?k_law_text ?a_law_asked ?l_law_asked ?c_law_asked ?k_law_asked ?a_law_base_told ?l_law_base_told ?c_law_base_told ?k_law_base_told ?a_law_read_right ?l_law_read_right ?c_law_read_right ?k_law_read_right ?a_law_written_right ?l_law_written_right ?c_law_written_right ?k_law_written_right ?a_law ?l_law ?c_law ?k_law ?pg_RowReader ?hd_RowReader ?po_RowReader ?sa_RowReader ?mk_RowReader ?kc_RowReader ?no_RowReader_parts ?no_RowReader_times ?no_BadWord_place ?be_LightsError ?hd_LightsError ?ty_LightsError ?ga_LightsError ?gg_LightsError ?cc_LightsError ?mo_LightsError ?be_BadWord ?hd_BadWord ?ty_BadWord ?ga_BadWord ?gg_BadWord ?cc_BadWord ?mo_BadWord ?be_BadLine ?hd_BadLine ?ty_BadLine ?ga_BadLine ?gg_BadLine ?cc_BadLine ?mo_BadLine ?gs ?gt ?s_LightsError_LightsError ?s_BadWord_LightsError ?s_BadLine_LightsError ?s_LightsError_BadWord ?s_BadWord_BadWord ?s_BadLine_BadWord ?q_BadWord_BadLine ?q_BadWord_ValueError ?q_LightsError_ValueError ?q_BadLine_ValueError ?b_ValueError ?b_abs ?b_bool ?b_enumerate ?b_int ?b_isinstance ?b_len ?b_list ?b_max ?b_min ?b_range ?b_str ?b_sum ?b_tuple ?b_super ?g_DIGITS ?g_KINDS ?g_MOST_COMINGS ?g_MOST_GROUPS ?xL_BadWord ?sx_BadWord ?ix_BadWord ?tx_BadWord ?kx_BadWord ?vx_BadWord ?mx_BadWord ?ux_BadWord ?fx_BadWord_l ?fx_BadWord_c ?xcell_BadWord ?xcode_BadWord ?opq ?hbm_BadWord ?hvs_BadWord ?hfl_BadWord ?htop
    (case a_LightsError => k_is)
    (case a_BadWord => k_is)
    (case a_BadLine => k_is)
    (case a_RowReader => k_is)
    (case a_number_of => k_is)
    (case l_number_of => k_is)
    (case c_number_of => k_is)
    (case k_number_of => k_is)
    (case a_comings_word => k_is)
    (case l_comings_word => k_is)
    (case c_comings_word => k_is)
    (case k_comings_word => k_is)
    (case a_row_text => k_is)
    (case l_row_text => k_is)
    (case c_row_text => k_is)
    (case k_row_text => k_is)
    (case a_comings_of => k_is)
    (case l_comings_of => k_is)
    (case c_comings_of => k_is)
    (case k_comings_of => k_is)
    (case a_split_word => k_is)
    (case l_split_word => k_is)
    (case c_split_word => k_is)
    (case k_split_word => k_is)
    (case a_RowReader___init => k_is)
    (case i_RowReader___init => k_is)
    (case l_RowReader___init => k_is)
    (case c_RowReader___init => k_is)
    (case k_RowReader___init => k_is)
    (case a_RowReader_room => k_is)
    (case i_RowReader_room => k_is)
    (case l_RowReader_room => k_is)
    (case c_RowReader_room => k_is)
    (case k_RowReader_room => k_is)
    (case a_RowReader_add => k_is)
    (case i_RowReader_add => k_is)
    (case l_RowReader_add => k_is)
    (case c_RowReader_add => k_is)
    (case k_RowReader_add => k_is)
    (case a_RowReader_end_group => k_is)
    (case i_RowReader_end_group => k_is)
    (case l_RowReader_end_group => k_is)
    (case c_RowReader_end_group => k_is)
    (case k_RowReader_end_group => k_is)
    (case a_RowReader_begin_group => k_is)
    (case i_RowReader_begin_group => k_is)
    (case l_RowReader_begin_group => k_is)
    (case c_RowReader_begin_group => k_is)
    (case k_RowReader_begin_group => k_is)
    (case a_RowReader_read_word => k_is)
    (case i_RowReader_read_word => k_is)
    (case l_RowReader_read_word => k_is)
    (case c_RowReader_read_word => k_is)
    (case k_RowReader_read_word => k_is)
    (case a_read_row => k_is)
    (case l_read_row => k_is)
    (case c_read_row => k_is)
    (case k_read_row => k_is)
    (case a_law_cell => k_is)
    (case l_law_cell => k_is)
    (case c_law_cell => k_is)
    (case k_law_cell => k_is)
    (case a_law_hand => k_is)
    (case l_law_hand => k_is)
    (case c_law_hand => k_is)
    (case k_law_hand => k_is)
    (case a_law_take => k_is)
    (case l_law_take => k_is)
    (case c_law_take => k_is)
    (case k_law_take => k_is)
    (case a_law_some => k_is)
    (case l_law_some => k_is)
    (case c_law_some => k_is)
    (case k_law_some => k_is)
    (case a_law_is_int => k_is)
    (case l_law_is_int => k_is)
    (case c_law_is_int => k_is)
    (case k_law_is_int => k_is)
    (case a_law_same => k_is)
    (case l_law_same => k_is)
    (case c_law_same => k_is)
    (case k_law_same => k_is)
    (case a_law_stretch => k_is)
    (case l_law_stretch => k_is)
    (case c_law_stretch => k_is)
    (case k_law_stretch => k_is)
    (case a_law_written => k_is)
    (case l_law_written => k_is)
    (case c_law_written => k_is)
    (case k_law_written => k_is)
    (case a_law_count => k_is)
    (case l_law_count => k_is)
    (case c_law_count => k_is)
    (case k_law_count => k_is)
    (case a_law_digits => k_is)
    (case l_law_digits => k_is)
    (case c_law_digits => k_is)
    (case k_law_digits => k_is)
    (case a_law_read => k_is)
    (case l_law_read => k_is)
    (case c_law_read => k_is)
    (case k_law_read => k_is)
    (case a_law_row => k_is)
    (case l_law_row => k_is)
    (case c_law_row => k_is)
    (case k_law_row => k_is)
    (case a_law_plain_word => k_is)
    (case l_law_plain_word => k_is)
    (case c_law_plain_word => k_is)
    (case k_law_plain_word => k_is)
    (case a_law_number_word => k_is)
    (case l_law_number_word => k_is)
    (case c_law_number_word => k_is)
    (case k_law_number_word => k_is)
    (case a_law_word => k_is)
    (case l_law_word => k_is)
    (case c_law_word => k_is)
    (case k_law_word => k_is)
    (case a_law_nest => k_is)
    (case l_law_nest => k_is)
    (case c_law_nest => k_is)
    (case k_law_nest => k_is)
    (case a_law_edge => k_is)
    (case l_law_edge => k_is)
    (case c_law_edge => k_is)
    (case k_law_edge => k_is)
    (case a_law_sign => k_is)
    (case l_law_sign => k_is)
    (case c_law_sign => k_is)
    (case k_law_sign => k_is)
    (case a_law_text => k_is)
    (case l_law_text => k_is)
    (case c_law_text => k_is)
    (case k_law_text => k_is)
    (case a_law_asked => k_is)
    (case l_law_asked => k_is)
    (case c_law_asked => k_is)
    (case k_law_asked => k_is)
    (case a_law_base_told => k_is)
    (case l_law_base_told => k_is)
    (case c_law_base_told => k_is)
    (case k_law_base_told => k_is)
    (case a_law_read_right => k_is)
    (case l_law_read_right => k_is)
    (case c_law_read_right => k_is)
    (case k_law_read_right => k_is)
    (case a_law_written_right => k_is)
    (case l_law_written_right => k_is)
    (case c_law_written_right => k_is)
    (case k_law_written_right => k_is)
    (case a_law => k_is)
    (case l_law => k_is)
    (case c_law => k_is)
    (case k_law => k_is)
    (case pg_RowReader => k_is)
    (case hd_RowReader => k_is)
    (case po_RowReader => k_is)
    (case sa_RowReader => k_is)
    (case mk_RowReader => k_is)
    (case kc_RowReader => k_is)
    (case no_RowReader_parts => k_is)
    (case no_RowReader_times => k_is)
    (case no_BadWord_place => k_is)
    (case be_LightsError => k_is)
    (case hd_LightsError => k_is)
    (case ty_LightsError => k_is)
    (case ga_LightsError => k_is)
    (case gg_LightsError => k_is)
    (case cc_LightsError => k_is)
    (case mo_LightsError => k_is)
    (case be_BadWord => k_is)
    (case hd_BadWord => k_is)
    (case ty_BadWord => k_is)
    (case ga_BadWord => k_is)
    (case gg_BadWord => k_is)
    (case cc_BadWord => k_is)
    (case mo_BadWord => k_is)
    (case be_BadLine => k_is)
    (case hd_BadLine => k_is)
    (case ty_BadLine => k_is)
    (case ga_BadLine => k_is)
    (case gg_BadLine => k_is)
    (case cc_BadLine => k_is)
    (case mo_BadLine => k_is)
    (case gs => k_is)
    (case gt => k_is)
    (case s_LightsError_LightsError => (first | rfl | k_is))
    (case s_BadWord_LightsError => (first | rfl | k_is))
    (case s_BadLine_LightsError => (first | rfl | k_is))
    (case s_LightsError_BadWord => (first | rfl | k_is))
    (case s_BadWord_BadWord => (first | rfl | k_is))
    (case s_BadLine_BadWord => (first | rfl | k_is))
    (case q_BadWord_BadLine => kit_is)
    (case q_BadWord_ValueError => kit_is)
    (case q_LightsError_ValueError => kit_is)
    (case q_BadLine_ValueError => kit_is)
    (case b_ValueError => k_is)
    (case b_abs => k_is)
    (case b_bool => k_is)
    (case b_enumerate => k_is)
    (case b_int => k_is)
    (case b_isinstance => k_is)
    (case b_len => k_is)
    (case b_list => k_is)
    (case b_max => k_is)
    (case b_min => k_is)
    (case b_range => k_is)
    (case b_str => k_is)
    (case b_sum => k_is)
    (case b_tuple => k_is)
    (case b_super => k_is)
    (case g_DIGITS => k_is)
    (case g_KINDS => k_is)
    (case g_MOST_COMINGS => k_is)
    (case g_MOST_GROUPS => k_is)
    (case xL_BadWord => k_is)
    (case sx_BadWord => k_is)
    (case ix_BadWord => k_is)
    (case tx_BadWord => k_is)
    (case kx_BadWord => k_is)
    (case vx_BadWord => k_is)
    (case mx_BadWord => k_is)
    (case ux_BadWord => ks_is)
    (case fx_BadWord_l => k_is)
    (case fx_BadWord_c => k_is)
    (case xcell_BadWord => k_is)
    (case xcode_BadWord => k_is)
    (case opq => k_is)
    (case hbm_BadWord => first | rfl | decide +kernel)
    (case hvs_BadWord => rfl)
    (case hfl_BadWord => rfl)
    (case htop => rfl)
