import PyProof.Rows.All
import Wide.All
import OpenK.AllK
import Wide.FinOn
import HandS.ForMost
import HandS.Exc
import HandS.TryOnly
import HandS.TryMany
import HandS.ExcOwn
import HandS.WordsExc
import HandS.IsInst
import HandS.Small
import HandS.Walk
import HandS.Lambda
import HandS.HeadHook4
import HandS.TupAny
import HandS.TupMul
import HandS.Wide
import HandS.Style
import HandS.Deep
import HandS.RaiseMore
import HandS.CallSlots
import KE.GoesEnum
import HandS.Replace
import HandS.Defaults
import HandS.ExcInit
import HandS.ExcIs
import HandS.ExcField
import HandS.HeadWalk
import HandS.Head0
import HandS.Head1
import HandS.Head2
import HandS.HeadEnd
import PySem.Challenge.RW_cardroom_k76_whole_texts_on_cards
section
set_option Elab.async false
set_option linter.all false
set_option maxRecDepth 100000
set_option maxHeartbeats 4000000
namespace Cr
open PySem PySem.Spec L2
set_option autoImplicit false

abbrev D := PyData
abbrev AS := Addr → Prop
abbrev Fr := PySem.W.Frag

def KT (K : Fr) (a : Addr) (xs : List V) : Prop :=
  ∃ (o : Obj) (its : Array Value) (n : Nat), K.lookup a = some o ∧ o.cls = .type "tuple" ∧ o.data = .seq its n ∧ its.size ≤ sizeLine ∧ Vals xs its.toList
def isTup : HO → Bool
  | .tup _ => true
  | .frz _ _ => true
  | _ => false
/-- a table of code objects: it may change where a lambda is made -/
def isTbl : HO → Bool
  | .tbl _ => true
  | _ => false
def Dn (H : Hp) (b : Addr) : Prop := ∃ o, H b = some o ∧ isTbl o = false
theorem Dn.ne {H : Hp} {b : Addr} (h : Dn H b) : H b ≠ none := by
  obtain ⟨o, e, _⟩ := h
  rw [e]; simp
theorem Dn.of {H : Hp} {b : Addr} {o : HO} (e : H b = some o) (n : isTbl o = false := by rfl) : Dn H b := ⟨o, e, n⟩
/-- all but the tables stays -/
def Same (H H' : Hp) : Prop := ∀ b o, H b = some o → isTbl o = false → H' b = some o
theorem Same.refl (H : Hp) : Same H H := fun _ _ h _ => h
theorem Same.trans {H H1 H2 : Hp} (a : Same H H1) (b : Same H1 H2) : Same H H2 := fun c o h n => b c o (a c o h n) n
theorem Same.dn {H H' : Hp} (s : Same H H') {b : Addr} (h : Dn H b) : Dn H' b := by
  obtain ⟨o, e, n⟩ := h
  exact ⟨o, s b o e n, n⟩
theorem Same.ofL {H H' : Hp} (s : L2.Same H H') : Same H H' := fun b o e _ => s b o e
instance sameCoe {H H' : Hp} : Coe (L2.Same H H') (Same H H') := ⟨Same.ofL⟩
def lamDefs : List Str := ["law", "_law_refusals"]
/-- the tables of the defs that make lambdas, the lambdas' names -/
def TK (K : Fr) : List (Addr × Str) := lamDefs.filterMap fun n => match K.lookup (He.fAd K (n, none)) with
  | some ⟨_, _, .func _, _⟩ => some ((He.cT K (n, none)).2, n ++ (".<locals>." : Str) ++ ("<lambda>" : Str))
  | _ => none
theorem tabs_put {T : List (Addr × Str)} {H : Hp} {a : Addr} {xs vs : List V} (t : LamX.Tabs T H) (e0 : H a = some (.lst xs)) : LamX.Tabs T (upd H a (.lst vs)) := fun p hp => by
  obtain ⟨ps, h1, h2, h3⟩ := t p hp
  refine ⟨ps, by rw [upd_ne (fun z => by rw [z, e0] at h1; cases h1)]; exact h1, h2, fun pos cv h => ?_⟩
  obtain ⟨c, k1, k2⟩ := h3 pos cv h
  exact ⟨c, k1, by rw [upd_ne (fun z => by rw [z, e0] at k2; cases k2)]; exact k2⟩
theorem tabs_ext {T : List (Addr × Str)} {H H' : Hp} (t : LamX.Tabs T H) (e : ∀ b o, H b = some o → H' b = some o) : LamX.Tabs T H' := t.ext e
def kD : Key → D
  | .inl i => .int i
  | .inr x => .str x
/-- a list from outside, told by a dict that no other value is told by -/
def ScrAt (K : Fr) (A : AS) (H : Hp) (a : Addr) (xs : List V) : Prop :=
  (H a = some (.lst xs) ∧ ¬ A a) ∨ (∃ o, H a = some (.frz o (.lst xs))) ∨
    ∃ (o : Obj) (its : Array Value) (n : Nat), K.lookup a = some o ∧ o.cls = .type "list" ∧ o.dict = none ∧ o.data = .seq its n ∧ its.size ≤ sizeLine ∧ Vals xs its.toList
theorem ScrAt.sq {K : Fr} {A : AS} {H : Hp} {a : Addr} {xs : List V} (h : ScrAt K A H a xs) : SqL K H a xs := by
  rcases h with h | h | h
  · exact .inl (.inl h.1)
  · exact .inl (.inr h)
  · exact .inr h
theorem ScrAt.of {K : Fr} {A : AS} {H : Hp} {a : Addr} {xs : List V} (h : SqL K H a xs) (n : ¬ A a) : ScrAt K A H a xs := by
  rcases h with (h | h) | h
  · exact .inl ⟨h, n⟩
  · exact .inr (.inl h)
  · exact .inr (.inr h)
theorem ScrAt.mono {K : Fr} {A : AS} {H H' : Hp} {a : Addr} {xs : List V} (k : ∀ b o, H b = some o → isTbl o = false → (¬ A b ∨ isTup o = true) → H' b = some o) (h : ScrAt K A H a xs) : ScrAt K A H' a xs := by
  rcases h with h | ⟨o, h⟩ | h
  · exact .inl ⟨k _ _ h.1 rfl (.inl h.2), h.2⟩
  · exact .inr (.inl ⟨o, k _ _ h rfl (.inr rfl)⟩)
  · exact .inr (.inr h)
theorem ScrAt.imp {K : Fr} {A A' : AS} {H : Hp} {a : Addr} {xs : List V} (s : ∀ b, A' b → A b ∨ ¬ Dn H b) (h : ScrAt K A H a xs) : ScrAt K A' H a xs := by
  rcases h with h | h | h
  · exact .inl ⟨h.1, fun z => (s _ z).elim h.2 fun q => q (.of h.1)⟩
  · exact .inr (.inl h)
  · exact .inr (.inr h)
def isScr : List (D × D) → Bool
  | (.none, _) :: _ => true
  | _ => false
mutual
/-- the value v stands for the datum d, by objects that are not at A -/
inductive Rp (K : Fr) (A : AS) (H : Hp) : V → D → Prop
  | non : Rp K A H .non .none
  | bl (b : Bool) : Rp K A H (.bl b) (.bool b)
  | int (i : Int) : Rp K A H (.int i) (.int i)
  | str (x : Str) : Rp K A H (.str x) (.str x)
  | lst {a : Addr} {xs : List V} {ds : List D} (h : H a = some (.lst xs)) (n : ¬ A a) (r : RpAll K A H xs ds) : Rp K A H (.ref a) (.list ds)
  | tup {a : Addr} {xs : List V} {ds : List D} (h : H a = some (.tup xs) ∨ KT K a xs) (r : RpAll K A H xs ds) : Rp K A H (.ref a) (.tuple ds)
  | dct {a : Addr} {kvs : List (Key × V)} {ds : List (D × D)} (h : H a = some (.dK kvs)) (n : ¬ A a) (r : RpAll K A H (kvs.map (·.2)) (ds.map (·.2))) (e : ds.map (·.1) = kvs.map fun p => kD p.1) : Rp K A H (.ref a) (.dict ds)
  | scr {a : Addr} {xs : List V} {ds : List D} (h : ScrAt K A H a xs) (r : RpAll K A H xs ds) : Rp K A H (.ref a) (.dict [(.none, .list ds)])
inductive RpAll (K : Fr) (A : AS) (H : Hp) : List V → List D → Prop
  | nil : RpAll K A H [] []
  | cons {v : V} {d : D} {vs : List V} {ds : List D} (h : Rp K A H v d) (r : RpAll K A H vs ds) : RpAll K A H (v :: vs) (d :: ds)
end
section
variable {K : Fr} {A A' : AS} {H H' : Hp}
mutual
theorem Rp.mono (k : ∀ b o, H b = some o → isTbl o = false → (¬ A b ∨ isTup o = true) → H' b = some o) : ∀ {v : V} {d : D}, Rp K A H v d → Rp K A H' v d
  | _, _, .non => .non
  | _, _, .bl b => .bl b
  | _, _, .int i => .int i
  | _, _, .str x => .str x
  | _, _, .lst h n r => .lst (k _ _ h rfl (.inl n)) n (RpAll.mono k r)
  | _, _, .tup h r => .tup (h.imp (fun q => k _ _ q rfl (.inr rfl)) id) (RpAll.mono k r)
  | _, _, .dct h n r e => .dct (k _ _ h rfl (.inl n)) n (RpAll.mono k r) e
  | _, _, .scr h r => .scr (h.mono k) (RpAll.mono k r)
theorem RpAll.mono (k : ∀ b o, H b = some o → isTbl o = false → (¬ A b ∨ isTup o = true) → H' b = some o) : ∀ {vs : List V} {ds : List D}, RpAll K A H vs ds → RpAll K A H' vs ds
  | _, _, .nil => .nil
  | _, _, .cons h r => .cons (Rp.mono k h) (RpAll.mono k r)
end
mutual
theorem Rp.imp (s : ∀ b, A' b → A b ∨ ¬ Dn H b) : ∀ {v : V} {d : D}, Rp K A H v d → Rp K A' H v d
  | _, _, .non => .non
  | _, _, .bl b => .bl b
  | _, _, .int i => .int i
  | _, _, .str x => .str x
  | _, _, .lst h n r => .lst h (fun z => (s _ z).elim n fun q => q (.of h)) (RpAll.imp s r)
  | _, _, .tup h r => .tup h (RpAll.imp s r)
  | _, _, .dct h n r e => .dct h (fun z => (s _ z).elim n fun q => q (.of h)) (RpAll.imp s r) e
  | _, _, .scr h r => .scr (h.imp s) (RpAll.imp s r)
theorem RpAll.imp (s : ∀ b, A' b → A b ∨ ¬ Dn H b) : ∀ {vs : List V} {ds : List D}, RpAll K A H vs ds → RpAll K A' H vs ds
  | _, _, .nil => .nil
  | _, _, .cons h r => .cons (Rp.imp s h) (RpAll.imp s r)
end
theorem key_scr {ds : List (D × D)} {kvs : List (Key × V)} (e : ds.map (·.1) = kvs.map fun p => kD p.1) : isScr ds = false := by
  cases ds with
  | nil => rfl
  | cons p r =>
    cases kvs with
    | nil => cases e
    | cons q s =>
      simp only [List.map_cons, List.cons.injEq] at e
      obtain ⟨k, v⟩ := p
      obtain ⟨x, u⟩ := q
      have e1 : k = kD x := e.1
      subst e1
      cases x <;> rfl
theorem RpAll.length : ∀ {vs : List V} {ds : List D}, RpAll K A H vs ds → vs.length = ds.length
  | _, _, .nil => rfl
  | _, _, .cons _ r => by simp [RpAll.length r]
theorem RpAll.get : ∀ {vs : List V} {ds : List D} {i : Nat} {d : D}, RpAll K A H vs ds → ds[i]? = some d → ∃ v, vs[i]? = some v ∧ Rp K A H v d
  | _, _, _, _, .nil, e => by simp at e
  | _, _, 0, _, .cons h _, e => by simp at e; subst e; exact ⟨_, rfl, h⟩
  | _, _, i + 1, d, .cons _ r, e => by
    obtain ⟨v, q, z⟩ := RpAll.get (i := i) (d := d) r (by simpa using e)
    exact ⟨v, by simpa using q, z⟩
theorem RpAll.getV : ∀ {vs : List V} {ds : List D} {i : Nat} {v : V}, RpAll K A H vs ds → vs[i]? = some v → ∃ d, ds[i]? = some d ∧ Rp K A H v d
  | _, _, _, _, .nil, e => by simp at e
  | _, _, 0, _, .cons h _, e => by simp at e; subst e; exact ⟨_, rfl, h⟩
  | _, _, i + 1, v, .cons _ r, e => by
    obtain ⟨d, q, z⟩ := RpAll.getV (i := i) (v := v) r (by simpa using e)
    exact ⟨d, by simpa using q, z⟩
theorem RpAll.append : ∀ {vs ws : List V} {ds es : List D}, RpAll K A H vs ds → RpAll K A H ws es → RpAll K A H (vs ++ ws) (ds ++ es)
  | _, _, _, _, .nil, s => s
  | _, _, _, _, .cons h r, s => .cons h (RpAll.append r s)
theorem RpAll.take : ∀ {vs : List V} {ds : List D} (n : Nat), RpAll K A H vs ds → RpAll K A H (vs.take n) (ds.take n)
  | _, _, 0, _ => .nil
  | _, _, _ + 1, .nil => .nil
  | _, _, n + 1, .cons h r => .cons h (RpAll.take n r)
theorem RpAll.drop : ∀ {vs : List V} {ds : List D} (n : Nat), RpAll K A H vs ds → RpAll K A H (vs.drop n) (ds.drop n)
  | _, _, 0, r => r
  | _, _, _ + 1, .nil => .nil
  | _, _, n + 1, .cons _ r => RpAll.drop n r
theorem RpAll.set : ∀ {vs : List V} {ds : List D} {v : V} {d : D} (i : Nat), Rp K A H v d → RpAll K A H vs ds → RpAll K A H (vs.set i v) (ds.set i d)
  | _, _, _, _, _, _, .nil => .nil
  | _, _, _, _, 0, h, .cons _ r => .cons h r
  | _, _, _, _, i + 1, h, .cons q r => .cons q (RpAll.set i h r)
theorem RpAll.snoc {vs : List V} {ds : List D} {v : V} {d : D} (r : RpAll K A H vs ds) (h : Rp K A H v d) : RpAll K A H (vs ++ [v]) (ds ++ [d]) := RpAll.append r (.cons h .nil)
mutual
theorem Rp.dp : ∀ {v : V} {d : D}, Rp K A H v d → PyData.canLay0 d = true → Dp K H v d
  | _, _, .non, _ => .non
  | _, _, .bl b, _ => .bl b
  | _, _, .int i, _ => .int i
  | _, _, .str x, _ => .str x
  | _, _, .lst h _ r, e => .lst (SqL.of h) (RpAll.dp r (by simpa [PyData.canLay0] using e))
  | _, _, .tup h r, e => .tup (h.imp (fun q => .inl q) id) (RpAll.dp r (by simpa [PyData.canLay0] using e))
  | _, _, .dct _ _ _ _, e => by simp [PyData.canLay0] at e
  | _, _, .scr _ _, e => by simp [PyData.canLay0] at e
theorem RpAll.dp : ∀ {vs : List V} {ds : List D}, RpAll K A H vs ds → PyData.canLayAll0 ds = true → DpAll K H vs ds
  | _, _, .nil, _ => .nil
  | _, _, .cons h r, e => by
    have e' := (Bool.and_eq_true_iff.mp (by simpa only [PyData.canLayAll0] using e))
    exact .cons (Rp.dp h e'.1) (RpAll.dp r e'.2)
end
end

/-! ### outcomes -/
/-- slots, what they stand for -/
abbrev Ev := List (Option D)
/-- an exception: the class's name, a field -/
structure Xc where
  cls : Str
  fld : Option (Str × D)
inductive Oc (α : Type) where
  | ok (a : α) (ρ : Ev)
  | exc (x : Xc) (ρ : Ev)
  | bad
abbrev M (α : Type) := Ev → Oc α
def Oc.bind {α β : Type} : Oc α → (α → M β) → Oc β
  | .ok a ρ, f => f a ρ
  | .exc x ρ, _ => .exc x ρ
  | .bad, _ => .bad
def M.pure {α : Type} (a : α) : M α := fun ρ => .ok a ρ
def M.bind {α β : Type} (m : M α) (f : α → M β) : M β := fun ρ => (m ρ).bind f
def M.bad {α : Type} : M α := fun _ => .bad
def M.lift {α : Type} (o : Option α) : M α := fun ρ => match o with
  | some a => .ok a ρ
  | none => .bad
def M.get (i : Nat) : M D := fun ρ => match ρ[i]? with
  | some (some d) => .ok d ρ
  | _ => .bad
/-- what a block does to the flow -/
inductive Fl where
  | nx | rt (d : D) | bk | ct

/-! ### states -/
def Av (O : AS) (U : Nat → Option Addr) : AS := fun b => O b ∨ ∃ i, U i = some b
def Keep (U : Nat → Option Addr) (H H' : Hp) : Prop := ∀ b o, H b = some o → isTbl o = false → ((∀ i, U i ≠ some b) ∨ isTup o = true) → H' b = some o
structure Sto (K : Fr) (S : Nat → Bool) (O : AS) (U : Nat → Option Addr) (σ : L2.St) (H : Hp) (ρ : Ev) : Prop where
  len : σ.length = ρ.length
  dat : ∀ i d, ρ[i]? = some (some d) → S i = false → ∃ v, σ[i]? = some (some v) ∧ Rp K (Av O U) H v d
  own : ∀ i d, ρ[i]? = some (some d) → S i = true → ∃ a ds vs, U i = some a ∧ σ[i]? = some (some (.ref a)) ∧ d = .list ds ∧ H a = some (.lst vs) ∧ RpAll K (Av O U) H vs ds
  uS : ∀ i a, U i = some a → S i = true
  out : ∀ i a, U i = some a → ¬ O a
  inj : ∀ i j a, U i = some a → U j = some a → i = j
  domO : ∀ b, O b → Dn H b
  domU : ∀ i a, U i = some a → Dn H a
  tab : LamX.Tabs (TK K) H
theorem Keep.refl {U : Nat → Option Addr} {H : Hp} : Keep U H H := fun _ _ e _ _ => e
theorem Keep.trans {U : Nat → Option Addr} {H H1 H2 : Hp} (a : Keep U H H1) (b : Keep U H1 H2) : Keep U H H2 := fun c o e t n => b c o (a c o e t n) t n
theorem Keep.of_same {U : Nat → Option Addr} {H H' : Hp} (s : Same H H') : Keep U H H' := fun b o e t _ => s b o e t
theorem Keep.rp {U : Nat → Option Addr} {H H' : Hp} {O : AS} {K : Fr} {v : V} {d : D} (k : Keep U H H') (r : Rp K (Av O U) H v d) : Rp K (Av O U) H' v d :=
  r.mono fun b o e t n => k b o e t (n.imp (fun n i z => n (.inr ⟨i, z⟩)) id)
theorem Keep.rpAll {U : Nat → Option Addr} {H H' : Hp} {O : AS} {K : Fr} {v : List V} {d : List D} (k : Keep U H H') (r : RpAll K (Av O U) H v d) : RpAll K (Av O U) H' v d :=
  r.mono fun b o e t n => k b o e t (n.imp (fun n i z => n (.inr ⟨i, z⟩)) id)
/-- nothing that is owned changes -/
theorem Sto.sameT {K : Fr} {S : Nat → Bool} {O : AS} {U : Nat → Option Addr} {σ : L2.St} {H H' : Hp} {ρ : Ev} (s : Sto K S O U σ H ρ) (k : Same H H') (tb : LamX.Tabs (TK K) H') : Sto K S O U σ H' ρ :=
  ⟨s.len, fun i d e n => let ⟨v, e1, r⟩ := s.dat i d e n; ⟨v, e1, (Keep.of_same k).rp r⟩,
   fun i d e n => let ⟨a, ds, vs, u, e1, e2, e3, r⟩ := s.own i d e n; ⟨a, ds, vs, u, e1, e2, k _ _ e3 rfl, (Keep.of_same k).rpAll r⟩, s.uS, s.out, s.inj,
   fun b o => k.dn (s.domO b o), fun i a u => k.dn (s.domU i a u), tb⟩
theorem Sto.same {K : Fr} {S : Nat → Bool} {O : AS} {U : Nat → Option Addr} {σ : L2.St} {H H' : Hp} {ρ : Ev} (s : Sto K S O U σ H ρ) (k : L2.Same H H') : Sto K S O U σ H' ρ := s.sameT (.ofL k) (s.tab.ext k)
end Cr
end
section
set_option Elab.async false
set_option linter.all false
set_option maxRecDepth 100000
set_option maxHeartbeats 4000000
namespace Cr
open PySem PySem.Spec L2
set_option autoImplicit false

/-- what is fixed: the written part, the slots whose lists this code alone holds, those of them that are parameters, the wish of an exception -/
structure Cn where
  K : Fr
  mg : Str → Option Value
  S : Nat → Bool
  P : Nat → Bool
  W : WX
  Z : Hp
  fr : Bool
  Fx : Nat → Bool
/-- of the slots, those in P -/
def UP (P : Nat → Bool) (U : Nat → Option Addr) : Nat → Option Addr := fun i => if P i = true then U i else none
theorem up_some {P : Nat → Bool} {U : Nat → Option Addr} {i : Nat} {a : Addr} (h : UP P U i = some a) : P i = true ∧ U i = some a := by
  unfold UP at h
  split at h
  · exact ⟨by assumption, h⟩
  · cases h
theorem get_cases (i : Nat) (ρ : Ev) : (∃ d, ρ[i]? = some (some d) ∧ M.get i ρ = .ok d ρ) ∨ M.get i ρ = .bad := by
  unfold M.get
  split
  · rename_i d e
    exact .inl ⟨d, e, rfl⟩
  · exact .inr rfl
/-- an exception's representation -/
def ExK (K : Fr) (mg : Str → Option Value) (O : AS) (U : Nat → Option Addr) (H : Hp) (x : Xc) (cls : Value) (dd : Option Addr) : Prop :=
  ∃ C, mg x.cls = some (.ref C) ∧ cls = .ref C ∧ match x.fld with
    | none => dd = none
    | some (f, d) => ∃ a v, dd = some a ∧ H a = some (.xd [(f, v)]) ∧ Rp K (Av O U) H v d
abbrev ExL (c : Cn) := ExK c.K c.mg
/-- what is known of where a value's objects stand: t: within it no list that is held; r: none of a parameter's; p: none at all; f: a list is new -/
structure Lv where
  t : Bool
  r : Bool
  p : Bool
  f : Bool
/-- a list that is held, by its items; else as Rp -/
inductive RpT (K : Fr) (A : AS) (H : Hp) : V → D → Prop
  | of {v : V} {d : D} (r : Rp K A H v d) : RpT K A H v d
  | own {a : Addr} {vs : List V} {ds : List D} (h : H a = some (.lst vs)) (r : RpAll K A H vs ds) : RpT K A H (.ref a) (.list ds)
structure RpL (K : Fr) (P : Nat → Bool) (l : Lv) (O : AS) (U : Nat → Option Addr) (H0 H : Hp) (T : AS → Prop) (v : V) (d : D) : Prop where
  b : Rp K (fun _ => False) H v d
  t : l.t = true → RpT K (Av O U) H v d
  r : l.r = true → Rp K (Av O (UP P U)) H v d
  p : l.p = true → Rp K (Av O U) H v d
  f : l.f = true → ∀ ds, d = .list ds → ∃ a vs, v = .ref a ∧ ¬ Dn H0 a ∧ H a = some (.lst vs) ∧ RpAll K (fun b => Av O U b ∨ b = a) H vs ds ∧ T fun b => O b ∨ b = a
abbrev Lv.own : Lv := ⟨true, true, false, false⟩
abbrev Lv.par : Lv := ⟨true, false, false, false⟩
abbrev Lv.pur : Lv := ⟨true, true, true, false⟩
abbrev Lv.new : Lv := ⟨true, true, true, true⟩
abbrev Rel (β α : Type) := AS → (Nat → Option Addr) → Hp → Hp → (AS → Prop) → β → α → Prop
/-- the state, by what is to be avoided -/
abbrev StT (c : Cn) (U : Nat → Option Addr) (σ : L2.St) (H : Hp) (ρ : Ev) : AS → Prop := fun O => Sto c.K c.S O U σ H ρ
section
variable {α β γ δ : Type}
def Res (c : Cn) (R : Rel β α) (O : AS) (U : Nat → Option Addr) (σ : L2.St) (H : Hp) (q : Bool) (o : Oc α) (Q : β → Hp → Prop) : Prop := match o with
  | .ok a ρ' => ∀ b H', Sto c.K c.S O U σ H' ρ' → Keep U H H' → (q = true → Same H H') → R O U H H' (StT c U σ H' ρ') b a → Q b H'
  | .exc x ρ' => ∀ cls dd H', Sto c.K c.S O U σ H' ρ' → Keep U H H' → ExL c O U H' x cls dd → c.W cls dd σ H'
  | .bad => False
def Tr (c : Cn) (R : Rel β α) (q : Bool) (t : L2.St → Hp → (β → Hp → Prop) → Prop) (m : M α) : Prop :=
  ∀ O U σ H ρ Q, Sto c.K c.S O U σ H ρ → Res c R O U σ H q (m ρ) Q → t σ H Q
/-- the relation may be told from an elder heap -/
def Ant (R : Rel β α) : Prop := ∀ O U H H1 H' T b a, Keep U H H1 → (∀ i a, U i = some a → Dn H1 a) → R O U H1 H' T b a → R O U H H' T b a
theorem ant_rpl {K : Fr} {P : Nat → Bool} {l : Lv} : Ant (RpL K P l) := fun O U H H1 H' T b a k dU ⟨r1, r2, r3, r4, f⟩ => ⟨r1, r2, r3, r4, fun e ds z => by
  obtain ⟨p, vs, e1, e2, e3, e4, e5⟩ := f e ds z
  refine ⟨p, vs, e1, fun ⟨o, q, n⟩ => e2 ⟨o, k p o q n (.inl fun i z => e2 (dU i p z)), n⟩, e3, e4, e5⟩⟩
theorem Res.at {c : Cn} {R : Rel β α} {O : AS} {U : Nat → Option Addr} {σ : L2.St} {H H1 : Hp} {q q1 : Bool} {o : Oc α} {Q : β → Hp → Prop} {ρ : Ev} (hR : Ant R) (st : Sto c.K c.S O U σ H1 ρ) (k : Keep U H H1) (s : q = true → q1 = true ∧ Same H H1)
    (h : Res c R O U σ H q o Q) : Res c R O U σ H1 q1 o Q := by
  cases o with
  | ok a ρ' => exact fun b H' st' k' s' r => h b H' st' (k.trans k') (fun z => (s z).2.trans (s' (s z).1)) (hR O U H H1 H' _ b a k st.domU r)
  | exc x ρ' => exact fun cls dd H' st' k' e => h cls dd H' st' (k.trans k') e
  | bad => exact h
/-- one behind the other -/
theorem Tr.bind {c : Cn} {R1 : Rel β α} {R : Rel δ γ} {q1 q2 : Bool} {t1 : L2.St → Hp → (β → Hp → Prop) → Prop} {t : L2.St → Hp → (δ → Hp → Prop) → Prop} {m : M α} {f : α → M γ} {t2 : β → L2.St → Hp → (δ → Hp → Prop) → Prop} (hR : Ant R) (h1 : Tr c R1 q1 t1 m)
    (h2 : ∀ a b O U σ H H1 ρ Q, Sto c.K c.S O U σ H1 ρ → Keep U H H1 → (q1 = true → Same H H1) → R1 O U H H1 (StT c U σ H1 ρ) b a → Res c R O U σ H1 q2 (f a ρ) Q → t2 b σ H1 Q)
    (e : t = fun σ H Q => t1 σ H fun b H1 => t2 b σ H1 Q) : Tr c R (q1 && q2) t (m.bind f) := by
  subst e
  intro O U σ H ρ Q st h
  refine h1 O U σ H ρ _ st ?_
  have h' : Res c R O U σ H (q1 && q2) ((m ρ).bind f) Q := h
  cases e : m ρ with
  | ok a ρ1 =>
    rw [e] at h'
    intro b H1 st1 k1 s1 r1
    exact h2 a b O U σ H H1 ρ1 Q st1 k1 s1 r1 (Res.at hR st1 k1 (fun z => ⟨(Bool.and_eq_true_iff.mp z).2, s1 (Bool.and_eq_true_iff.mp z).1⟩) h')
  | exc x ρ1 => rw [e] at h'; exact h'
  | bad => rw [e] at h'; exact h'.elim
end

/-! ### expressions -/
/-- the context is of the frame's kind -/
structure Fit (X : Cx) (c : Cn) : Prop where
  K : X.K = c.K
  mg : X.mg = c.mg
structure EvOk (X : Cx) (c : Cn) (e : Expr) (l : Lv) (q : Bool) (m : M D) : Prop where
  ex : ∃ te, PE X e te ∧ Tr c (RpL c.K c.P l) q te m
theorem Rp.low {K : Fr} {A : AS} {H : Hp} {v : V} {d : D} (r : Rp K A H v d) : Rp K (fun _ => False) H v d := r.imp fun _ z => z.elim
theorem RpAll.low {K : Fr} {A : AS} {H : Hp} {v : List V} {d : List D} (r : RpAll K A H v d) : RpAll K (fun _ => False) H v d := r.imp fun _ z => z.elim
theorem RpT.low {K : Fr} {A : AS} {H : Hp} {v : V} {d : D} (r : RpT K A H v d) : Rp K (fun _ => False) H v d := by
  cases r with
  | of r => exact r.low
  | own h r => exact .lst h (fun z => z) r.low
theorem av_up {P : Nat → Bool} {O : AS} {U : Nat → Option Addr} {b : Addr} (h : Av O (UP P U) b) : Av O U b := by
  rcases h with h | ⟨i, h⟩
  · exact .inl h
  · exact .inr ⟨i, (up_some h).2⟩
/-- nothing is held within -/
theorem rpl_pur {K : Fr} {P : Nat → Bool} {O : AS} {U : Nat → Option Addr} {H0 H : Hp} {T : AS → Prop} {v : V} {d : D} (r : Rp K (Av O U) H v d) : RpL K P .pur O U H0 H T v d :=
  ⟨r.low, fun _ => .of r, fun _ => r.imp fun b z => .inl (av_up z), fun _ => r, nofun⟩
theorem rpl_scal {K : Fr} {P : Nat → Bool} {l : Lv} {O : AS} {U : Nat → Option Addr} {H0 H : Hp} {T : AS → Prop} {v : V} {d : D} (r : Rp K (Av O U) H v d) (h : ∀ ds, d ≠ .list ds) : RpL K P l O U H0 H T v d :=
  ⟨r.low, fun _ => .of r, fun _ => r.imp fun b z => .inl (av_up z), fun _ => r, fun _ ds e => (h ds e).elim⟩
theorem rpl_new {K : Fr} {P : Nat → Bool} {l : Lv} {O : AS} {U : Nat → Option Addr} {H0 H : Hp} {T : AS → Prop} {a : Addr} {vs : List V} {ds : List D} (e0 : ¬ Dn H0 a) (e : H a = some (.lst vs)) (n : ¬ Av O U a) (r : RpAll K (fun b => Av O U b ∨ b = a) H vs ds) (t : T fun b => O b ∨ b = a) : RpL K P l O U H0 H T (.ref a) (.list ds) :=
  have r0 : RpAll K (Av O U) H vs ds := r.imp fun b z => .inl (.inl z)
  have q : Rp K (Av O U) H (.ref a) (.list ds) := .lst e n r0
  ⟨q.low, fun _ => .of q, fun _ => q.imp fun b z => .inl (av_up z), fun _ => q, fun _ ds' e' => by cases e'; exact ⟨a, vs, rfl, e0, e, r, t⟩⟩
/-- a value that stands while another expression is evaluated -/
theorem RpL.stay {K : Fr} {P : Nat → Bool} {l : Lv} {q : Bool} {O : AS} {U : Nat → Option Addr} {H0 H H' : Hp} {T : AS → Prop} {v : V} {d : D} (r : RpL K P l O U H0 H T v d) (h : (l.p || q) = true) (k : Keep U H H') (s : q = true → Same H H') :
    Rp K (fun _ => False) H' v d := by
  rcases Bool.or_eq_true_iff.mp h with h | h
  · exact (k.rp (r.p h)).low
  · exact r.b.mono fun b o e t _ => s h b o e t
theorem RpT.same {K : Fr} {A : AS} {H H' : Hp} {v : V} {d : D} (r : RpT K A H v d) (s : Same H H') : RpT K A H' v d := by
  cases r with
  | of r => exact .of (r.mono fun b o e t _ => s b o e t)
  | own h r => exact .own (s _ _ h rfl) (r.mono fun b o e t _ => s b o e t)
theorem RpL.stayT {K : Fr} {P : Nat → Bool} {l : Lv} {q : Bool} {O : AS} {U : Nat → Option Addr} {H0 H H' : Hp} {T : AS → Prop} {v : V} {d : D} (r : RpL K P l O U H0 H T v d) (ht : l.t = true) (h : (l.p || q) = true) (k : Keep U H H') (s : q = true → Same H H') :
    RpT K (Av O U) H' v d := by
  rcases Bool.or_eq_true_iff.mp h with h | h
  · exact .of (k.rp (r.p h))
  · exact (r.t ht).same (s h)
theorem fresh_av {K : Fr} {S : Nat → Bool} {O : AS} {U : Nat → Option Addr} {σ : L2.St} {H : Hp} {ρ : Ev} (st : Sto K S O U σ H ρ) {p : Addr} (h : H p = none) : ¬ Av O U p := fun z => by
  rcases z with z | ⟨i, z⟩
  · exact (st.domO p z).ne h
  · exact (st.domU i p z).ne h
theorem not_dn {H : Hp} {p : Addr} (h : H p = none) : ¬ Dn H p := fun z => z.ne h
theorem same_new {H : Hp} {p : Addr} {o : HO} (h : H p = none) : L2.Same H (upd H p o) := fun b u e => by rw [upd_ne (ne_of_none e h)]; exact e
/-- a list is laid: it is a new one -/
theorem rpl_lay {c : Cn} {P : Nat → Bool} {l : Lv} {O : AS} {U : Nat → Option Addr} {σ : L2.St} {H : Hp} {ρ : Ev} {p : Addr} {vs : List V} {ds : List D} (st : Sto c.K c.S O U σ H ρ) (hp : H p = none) (r : RpAll c.K (Av O U) H vs ds) :
    RpL c.K P l O U H (upd H p (.lst vs)) (StT c U σ (upd H p (.lst vs)) ρ) (.ref p) (.list ds) := by
  have sm := same_new (o := .lst vs) hp
  have na := fresh_av st hp
  have ch : ∀ b, (Av O U b ∨ b = p) → Av O U b ∨ ¬ Dn H b := fun b z => z.imp id fun w => by rw [w]; exact not_dn hp
  have ch2 : ∀ b, Av (fun b => O b ∨ b = p) U b → Av O U b ∨ ¬ Dn H b := fun b z => by
    rcases z with (z | z) | z
    · exact .inl (.inl z)
    · exact .inr (by rw [z]; exact not_dn hp)
    · exact .inl (.inr z)
  have st' := st.same sm
  refine rpl_new (not_dn hp) upd_same na ((r.imp ch).mono fun b o e _ _ => sm b o e) ⟨st'.len, fun i d e n => ?_, fun i d e n => ?_, st'.uS, fun i a u z => ?_, st'.inj, fun b z => ?_, st'.domU, st'.tab⟩
  · obtain ⟨v, e1, q⟩ := st.dat i d e n
    exact ⟨v, e1, (q.imp ch2).mono fun b o e _ _ => sm b o e⟩
  · obtain ⟨a, ds, ws, u, e1, e2, e3, q⟩ := st.own i d e n
    exact ⟨a, ds, ws, u, e1, e2, sm _ _ e3, (q.imp ch2).mono fun b o e _ _ => sm b o e⟩
  · rcases z with z | z
    · exact st.out i a u z
    · exact (st.domU i a u).ne (by rw [z]; exact hp)
  · rcases z with z | z
    · exact st'.domO b z
    · rw [z]; exact .of upd_same
section
variable {X : Cx} {c : Cn} {pos : Pos}
/-- a constant -/
theorem ev_con {e : Expr} {v : V} {d : D} (h : PE X e (tC v)) (r : ∀ A H, Rp c.K A H v d) (nl : ∀ ds, d ≠ .list ds) : EvOk X c e .new true (M.pure d) :=
  ⟨_, h, fun O U σ H ρ Q st h => h v H st Keep.refl (fun _ => Same.refl H) (rpl_scal (r _ _) nl)⟩
/-- a name of the def, none of those that hold lists of their own -/
theorem ev_var {i : Nat} {x : Str} (hN : X.N[i]? = some x) (hv : Vis X.env.scope x) (hd : (x == ("__debug__" : Str)) = false) (hcd : (x == ("__classdict__" : Str)) = false) (hS : c.S i = false) : EvOk X c (.Name x pos) .pur true (M.get i) := by
  refine ⟨_, pe_var hN hv hd hcd, fun O U σ H ρ Q st h => ?_⟩
  rcases get_cases i ρ with ⟨d, e, z⟩ | z
  · rw [z] at h
    obtain ⟨v, e1, r⟩ := st.dat i d e hS
    exact ⟨v, e1, h v H st Keep.refl (fun _ => Same.refl H) (rpl_pur r)⟩
  · rw [z] at h; exact h.elim
/-- one that does -/
theorem ev_own {i : Nat} {x : Str} (hN : X.N[i]? = some x) (hv : Vis X.env.scope x) (hd : (x == ("__debug__" : Str)) = false) (hcd : (x == ("__classdict__" : Str)) = false) (hS : c.S i = true) : EvOk X c (.Name x pos) ⟨true, !c.P i, false, false⟩ true (M.get i) := by
  refine ⟨_, pe_var hN hv hd hcd, fun O U σ H ρ Q st h => ?_⟩
  rcases get_cases i ρ with ⟨d, e, z⟩ | z
  · rw [z] at h
    obtain ⟨a, ds, vs, u, e1, e2, e3, r⟩ := st.own i d e hS
    subst e2
    refine ⟨.ref a, e1, h _ H st Keep.refl (fun _ => Same.refl H) ⟨.lst e3 (fun z => z) r.low, fun _ => .own e3 r, fun hP => .lst e3 (fun z => ?_) (r.imp fun b z => .inl (av_up z)), nofun, nofun⟩⟩
    rcases z with z | ⟨j, z⟩
    · exact st.out i a u z
    · obtain ⟨hj, z⟩ := up_some z
      have := st.inj i j a u z
      subst this
      rw [hj] at hP; cases hP
  · rw [z] at h; exact h.elim
/-- two expressions, an operation -/
theorem tr_op2 {la lb : Lv} {qa qb : Bool} {ma mb : M D} {ta tb : TE} {r : R2} {g : D → D → Option D} (l : Lv) (ha : Tr c (RpL c.K c.P la) qa ta ma) (hb : Tr c (RpL c.K c.P lb) qb tb mb)
    (hs : (la.p || qb) = true) (h1 : la.t = true) (h2 : lb.t = true)
    (hr : ∀ O U σ H ρ x y d f z Q, Sto c.K c.S O U σ H ρ → RpT c.K (Av O U) H x d → RpT c.K (Av O U) H y f → g d f = some z →
      (∀ v H', Sto c.K c.S O U σ H' ρ → Same H H' → RpL c.K c.P l O U H H' (StT c U σ H' ρ) v z → Q v H') → r x y H Q) :
    Tr c (RpL c.K c.P l) (qa && qb) (tOp r ta tb) (ma.bind fun d => mb.bind fun f => M.lift (g d f)) := by
  refine Tr.bind (t2 := fun x σ H1 Q => tb σ H1 fun y H2 => r x y H2 Q) ant_rpl ha (fun d x O U σ H H1 ρ Q st k s rx h => ?_) rfl
  refine hb O U σ H1 ρ _ st ?_
  have h' : Res c (RpL c.K c.P l) O U σ H1 qb ((mb ρ).bind fun f => M.lift (g d f)) Q := h
  cases eb : mb ρ with
  | ok f ρ1 =>
    rw [eb] at h'
    intro y H2 st2 k2 s2 ry
    have h3 : Res c (RpL c.K c.P l) O U σ H1 qb (M.lift (g d f) ρ1) Q := h'
    unfold M.lift at h3
    cases eg : g d f with
    | none => rw [eg] at h3; exact h3.elim
    | some z =>
      rw [eg] at h3
      refine hr O U σ H2 ρ1 x y d f z Q st2 (rx.stayT h1 hs k2 s2) (ry.t h2) eg fun v H' st3 s3 rv => ?_
      exact h3 v H' st3 (k2.trans (Keep.of_same s3)) (fun z => (s2 z).trans s3) (ant_rpl O U H1 H2 H' _ v z k2 st2.domU rv)
  | exc x ρ1 => rw [eb] at h'; exact h'
  | bad => rw [eb] at h'; exact h'.elim
theorem ev_op2 {e : Expr} {la lb : Lv} {qa qb : Bool} {ma mb : M D} {ta tb : TE} {r : R2} {g : D → D → Option D} (l : Lv) (hp : PE X e (tOp r ta tb)) (ha : Tr c (RpL c.K c.P la) qa ta ma) (hb : Tr c (RpL c.K c.P lb) qb tb mb)
    (hs : (la.p || qb) = true) (h1 : la.t = true) (h2 : lb.t = true)
    (hr : ∀ O U σ H ρ x y d f z Q, Sto c.K c.S O U σ H ρ → RpT c.K (Av O U) H x d → RpT c.K (Av O U) H y f → g d f = some z →
      (∀ v H', Sto c.K c.S O U σ H' ρ → Same H H' → RpL c.K c.P l O U H H' (StT c U σ H' ρ) v z → Q v H') → r x y H Q) :
    EvOk X c e l (qa && qb) (ma.bind fun d => mb.bind fun f => M.lift (g d f)) := ⟨_, hp, tr_op2 l ha hb hs h1 h2 hr⟩
end
end Cr
end
section
set_option Elab.async false
set_option linter.all false
set_option maxRecDepth 100000
set_option maxHeartbeats 4000000
namespace Cr
open PySem PySem.Spec L2
set_option autoImplicit false
/-! ### what a value is, by its datum -/
section
variable {K : Fr} {A : AS} {H : Hp} {v : V}
theorem Rp.eNon (r : Rp K A H v .none) : v = .non := by cases r; rfl
theorem Rp.eBl {b : Bool} (r : Rp K A H v (.bool b)) : v = .bl b := by cases r; rfl
theorem Rp.eInt {i : Int} (r : Rp K A H v (.int i)) : v = .int i := by cases r; rfl
theorem Rp.eStr {x : Str} (r : Rp K A H v (.str x)) : v = .str x := by cases r; rfl
theorem Rp.eLst {ds : List D} (r : Rp K A H v (.list ds)) : ∃ a vs, v = .ref a ∧ H a = some (.lst vs) ∧ RpAll K A H vs ds := by
  cases r with
  | lst h n r => exact ⟨_, _, rfl, h, r⟩
theorem Rp.eTup {ds : List D} (r : Rp K A H v (.tuple ds)) : ∃ a vs, v = .ref a ∧ SqT K H a vs ∧ RpAll K A H vs ds := by
  cases r with
  | tup h r => exact ⟨_, _, rfl, h.imp (fun q => .inl q) id, r⟩
theorem RpT.eNon (r : RpT K A H v .none) : v = .non := r.low.eNon
theorem RpT.eBl {b : Bool} (r : RpT K A H v (.bool b)) : v = .bl b := r.low.eBl
theorem RpT.eInt {i : Int} (r : RpT K A H v (.int i)) : v = .int i := r.low.eInt
theorem RpT.eStr {x : Str} (r : RpT K A H v (.str x)) : v = .str x := r.low.eStr
theorem RpT.eLst {ds : List D} (r : RpT K A H v (.list ds)) : ∃ a vs, v = .ref a ∧ H a = some (.lst vs) ∧ RpAll K A H vs ds := by
  cases r with
  | of r => exact r.eLst
  | own h r => exact ⟨_, _, rfl, h, r⟩
theorem RpT.eTup {ds : List D} (r : RpT K A H v (.tuple ds)) : ∃ a vs, v = .ref a ∧ SqT K H a vs ∧ RpAll K A H vs ds := by
  cases r with
  | of r => exact r.eTup
theorem RpT.tup {ds : List D} (r : RpT K A H v (.tuple ds)) : Rp K A H v (.tuple ds) := by
  cases r with
  | of r => exact r
end
/-! ### operations on data -/
def strRep (s : Str) (n : Nat) : Str := ⟨(List.replicate n s.cps.toList).flatten.toArray⟩
def dAdd : D → D → Option D
  | .int i, .int j => some (.int (i + j))
  | .str a, .str b => if a.length + b.length ≤ sizeLine then some (.str (a ++ b)) else none
  | .list a, .list b => if a.length + b.length ≤ sizeLine then some (.list (a ++ b)) else none
  | .tuple a, .tuple b => if a.length + b.length ≤ sizeLine then some (.tuple (a ++ b)) else none
  | _, _ => none
def dSub : D → D → Option D
  | .int i, .int j => some (.int (i - j))
  | _, _ => none
def mulOk (i j : Int) : Bool := decide (-(2 ^ 64) < i ∧ i < 2 ^ 64) || decide (-(2 ^ 64) < j ∧ j < 2 ^ 64) || decide (i.natAbs.log2 + j.natAbs.log2 < 1000000)
def dMul : D → D → Option D
  | .int i, .int j => if mulOk i j = true then some (.int (i * j)) else none
  | .str a, .int n => if n < 1000000000 ∧ -1000000000 < n ∧ a.length * n.toNat ≤ sizeLine then some (.str (strRep a n.toNat)) else none
  | .list a, .int n => if n < 1000000000 ∧ -1000000000 < n ∧ a.length * n.toNat ≤ sizeLine then some (.list (List.replicate n.toNat a).flatten) else none
  | .tuple a, .int n => if a ≠ [] ∧ 2 ≤ n ∧ n ≤ 1000 ∧ a.length ≤ 1000 then some (.tuple (List.replicate n.toNat a).flatten) else none
  | _, _ => none
def dDiv : D → D → Option D
  | .int i, .int j => if 0 < j ∧ j.natAbs.log2 < 9000 then some (.int (i / j)) else none
  | _, _ => none
def dMod : D → D → Option D
  | .int i, .int j => if 0 < j then some (.int (i % j)) else none
  | _, _ => none
def dPow : D → D → Option D
  | .int i, .int j => if 0 ≤ j ∧ j ≤ 1000000 ∧ i.natAbs < 2 ^ 64 then some (.int (i ^ j.toNat)) else none
  | _, _ => none
section
variable {X : Cx} {c : Cn} {pos : Pos}
theorem rpl_scal' {K : Fr} {P : Nat → Bool} {l : Lv} {O : AS} {U : Nat → Option Addr} {H0 H : Hp} {T : AS → Prop} {i : Int} : RpL K P l O U H0 H T (.int i) (.int i) := rpl_scal (.int i) nofun
abbrev EvB (X : Cx) (c : Cn) (op : Operator) (g : D → D → Option D) : Prop := ∀ {a b : Expr} {la lb : Lv} {qa qb : Bool} {ma mb : M D} {pos : Pos}, EvOk X c a la qa ma → EvOk X c b lb qb mb → (la.p || qb) = true → la.t = true → lb.t = true →
  EvOk X c (.BinOp a op b pos) .new (qa && qb) (ma.bind fun d => mb.bind fun f => M.lift (g d f))
theorem ev_bin {op : Operator} {r : R2} {g : D → D → Option D} (ho : OpR X (binaryOp op) r)
    (hr : ∀ O U σ H ρ x y d f z Q, Sto c.K c.S O U σ H ρ → RpT c.K (Av O U) H x d → RpT c.K (Av O U) H y f → g d f = some z →
      (∀ v H', Sto c.K c.S O U σ H' ρ → Same H H' → RpL c.K c.P .new O U H H' (StT c U σ H' ρ) v z → Q v H') → r x y H Q) : EvB X c op g :=
  fun ⟨_, p1, t1⟩ ⟨_, p2, t2⟩ hs h1 h2 => ev_op2 _ (pe_op ho p1 p2) t1 t2 hs h1 h2 hr
theorem ev_sub : EvB X c .Sub dSub := ev_bin op_sub fun O U σ H ρ x y d f z Q st rx ry e k => by
  cases d <;> cases f <;> simp only [dSub, Option.some.injEq, reduceCtorEq] at e
  subst e
  exact ⟨_, _, rx.eInt, ry.eInt, k _ H st (Same.refl H) rpl_scal'⟩
theorem ev_mod : EvB X c .Mod dMod := ev_bin op_mod fun O U σ H ρ x y d f z Q st rx ry e k => by
  cases d <;> cases f <;> simp only [dMod, reduceCtorEq] at e
  split at e
  · cases e
    exact ⟨_, _, rx.eInt, ry.eInt, by assumption, k _ H st (Same.refl H) rpl_scal'⟩
  · cases e
theorem ev_div : EvB X c .FloorDiv dDiv := ev_bin op_fdivW fun O U σ H ρ x y d f z Q st rx ry e k => by
  cases d <;> cases f <;> simp only [dDiv, reduceCtorEq] at e
  split at e
  · cases e
    exact ⟨_, _, rx.eInt, ry.eInt, by assumption, k _ H st (Same.refl H) rpl_scal'⟩
  · cases e
theorem ev_pow : EvB X c .Pow dPow := ev_bin op_pow fun O U σ H ρ x y d f z Q st rx ry e k => by
  cases d <;> cases f <;> simp only [dPow, reduceCtorEq] at e
  split at e
  · cases e
    exact ⟨_, _, rx.eInt, ry.eInt, by assumption, k _ H st (Same.refl H) rpl_scal'⟩
  · cases e
theorem lst_at {p : Addr} {vs : List V} {H : Hp} : (upd H p (.lst vs)) p = some (.lst vs) := upd_same
theorem ev_add (F : Fit X c) : EvB X c .Add dAdd := ev_bin (OpR.or (OpR.or op_add op_add_str) (OpR.or op_cat (F.K ▸ op_catA : OpR X (binaryOp .Add) (rCatA c.K)))) fun O U σ H ρ x y d f z Q st rx ry e k => by
  cases d <;> cases f <;> simp only [dAdd, Option.some.injEq, reduceCtorEq] at e
  · subst e
    exact .inl (.inl ⟨_, _, rx.eInt, ry.eInt, k _ H st (Same.refl H) rpl_scal'⟩)
  · split at e
    · cases e
      exact .inl (.inr ⟨_, _, rx.eStr, ry.eStr, by assumption, k _ H st (Same.refl H) (rpl_scal (.str _) nofun)⟩)
    · cases e
  · split at e
    · cases e
      obtain ⟨p1, vs, rfl, h1, r1⟩ := rx.eLst
      obtain ⟨p2, ws, rfl, h2, r2⟩ := ry.eLst
      refine .inr (.inl ⟨_, _, _, _, rfl, rfl, h1, h2, by rw [r1.length, r2.length]; assumption, fun p hp => ?_⟩)
      have sm := same_new (o := .lst (vs ++ ws)) hp
      exact k _ _ (st.same sm) sm (rpl_lay st hp (r1.append r2))
    · cases e
  · split at e
    · cases e
      obtain ⟨p1, vs, rfl, h1, r1⟩ := rx.eTup
      obtain ⟨p2, ws, rfl, h2, r2⟩ := ry.eTup
      refine .inr (.inr ⟨_, _, _, _, rfl, rfl, h1, h2, by rw [r1.length, r2.length]; assumption, fun e => ?_, fun e1 e2 => ?_, fun e1 e2 p hp => ?_⟩)
      · subst e; cases r1
        exact k _ H st (Same.refl H) (rpl_scal ry.tup nofun)
      · subst e2; cases r2
        rw [List.append_nil] at k
        exact k _ H st (Same.refl H) (rpl_scal rx.tup nofun)
      · have sm := same_new (o := .tup (vs ++ ws)) hp
        exact k _ _ (st.same sm) sm (rpl_scal (.tup (.inl upd_same) ((Keep.of_same sm).rpAll (r1.append r2))) nofun)
    · cases e
theorem RpAll.rep {K : Fr} {A : AS} {H : Hp} {vs : List V} {ds : List D} (r : RpAll K A H vs ds) : ∀ n : Nat, RpAll K A H (List.replicate n vs).flatten (List.replicate n ds).flatten
  | 0 => .nil
  | n + 1 => by
    rw [List.replicate_succ, List.replicate_succ, List.flatten_cons, List.flatten_cons]
    exact r.append (RpAll.rep r n)
theorem foldl_strRep (l : List Nat) : ∀ (n : Nat) (acc : List Nat), (List.replicate n l.toArray).foldl (· ++ ·) acc.toArray = (acc ++ (List.replicate n l).flatten).toArray
  | 0, acc => by simp
  | n + 1, acc => by
    rw [List.replicate_succ, List.foldl_cons, List.append_toArray, foldl_strRep l n, List.replicate_succ, List.flatten_cons, List.append_assoc]
theorem op_strMul : OpR X (binaryOp .Mult) (fun x y H Q => ∃ a n, x = .str a ∧ y = .int n ∧ n < 1000000000 ∧ -1000000000 < n ∧ a.length * n.toNat ≤ sizeLine ∧ Q (.str (strRep a n.toNat)) H) := by
  intro pins s σ H x y v u Q I rx ry h
  obtain ⟨a, n, rfl, rfl, h1, h2, h3, q⟩ := h
  obtain ⟨t, rfl⟩ := rx
  obtain ⟨t', rfl⟩ := ry
  have hz : sizeLine = 16777216 := rfl
  have en : ∀ tk, EP X pins σ Q (.str (strRep a n.toNat) tk) { s with toks := s.toks + 1 } := fun tk => ⟨.str _, H, I.tok _, ⟨_, rfl⟩, q⟩
  refine P.mul_str (by rw [decide_eq_false (by omega), decide_eq_false (by omega)]; rfl) (fun g1 g2 => ?_) (fun g1 g2 => ?_) ?_
  · intro g
    have hn : 1 ≤ n := by omega
    have : (a.length : Int) * n ≤ 16777216 := by
      have e : ((a.length * n.toNat : Nat) : Int) = (a.length : Int) * n := by rw [Int.natCast_mul, Int.toNat_of_nonneg (by omega)]
      rw [← e]; omega
    have g' : (2 ^ 63 - 1) / n < (a.length : Int) := g
    have := (Int.ediv_lt_iff_lt_mul (by omega : (0 : Int) < n)).mp g'
    omega
  · exact decide_eq_false (by omega)
  · split
    · rename_i g
      have e0 : n.toNat = 0 := by omega
      have e : strRep a n.toNat = Str.empty := by rw [e0]; rfl
      have := en s.toks
      rw [e] at this
      exact ⟨by decide, this⟩
    · split
      · rename_i g1 g2
        have e : strRep a n.toNat = a := by
          rcases Bool.or_eq_true_iff.mp g2 with g | g
          · have : n = 1 := by simpa using g
            subst this
            show (⟨([a.cps.toList].flatten).toArray⟩ : Str) = a
            simp
          · have : a.cps.size = 0 := by simpa [Str.length] using g
            have e : a.cps = #[] := Array.eq_empty_of_size_eq_zero this
            unfold strRep
            rw [e]
            have : (List.replicate n.toNat ([] : List Nat)).flatten = [] := by simp
            cases a
            simp_all
        rw [e] at q
        exact ⟨.str _, H, I.tok _, ⟨_, rfl⟩, q⟩
      · have e : (List.replicate n.toNat a.cps).foldl (· ++ ·) #[] = (List.replicate n.toNat a.cps.toList).flatten.toArray := by
          have := foldl_strRep a.cps.toList n.toNat []
          simpa using this
        refine ⟨?_, ?_⟩
        · show (Array.size _) ≤ _
          rw [e]
          simp only [List.size_toArray, List.length_flatten, List.map_replicate, List.sum_replicate_nat, Array.length_toList]
          have : a.cps.size = a.length := rfl
          rw [this, Nat.mul_comm]; omega
        · rw [e]
          exact en _
end
end Cr
end
section
set_option Elab.async false
set_option linter.all false
set_option maxRecDepth 100000
set_option maxHeartbeats 4000000
namespace Cr
open PySem PySem.Spec L2
set_option autoImplicit false
section
variable {X : Cx} {c : Cn} {pos : Pos}
theorem ev_mul (F : Fit X c) : EvB X c .Mult dMul := ev_bin (OpR.or (OpR.or op_mul op_mulW) (OpR.or op_strMul (OpR.or op_rep (F.K ▸ op_repT : OpR X (binaryOp .Mult) (rRepT c.K))))) fun O U σ H ρ x y d f z Q st rx ry e k => by
  cases f <;> cases d <;> simp only [dMul, reduceCtorEq] at e
  · split at e
    · cases e
      rename_i h
      unfold mulOk at h
      rw [Bool.or_eq_true, Bool.or_eq_true] at h
      rcases h with (h | h) | h
      · exact .inl (.inl ⟨_, _, rx.eInt, ry.eInt, .inl (of_decide_eq_true h), k _ H st (Same.refl H) rpl_scal'⟩)
      · exact .inl (.inl ⟨_, _, rx.eInt, ry.eInt, .inr (of_decide_eq_true h), k _ H st (Same.refl H) rpl_scal'⟩)
      · exact .inl (.inr ⟨_, _, rx.eInt, ry.eInt, show CMulW _ _ from of_decide_eq_true (p := _ + _ < 1000000) h, k _ H st (Same.refl H) rpl_scal'⟩)
    · cases e
  · split at e
    · cases e
      rename_i h
      exact .inr (.inl ⟨_, _, rx.eStr, ry.eInt, h.1, h.2.1, h.2.2, k _ H st (Same.refl H) (rpl_scal (.str _) nofun)⟩)
    · cases e
  · split at e
    · cases e
      rename_i i xs h
      obtain ⟨p1, vs, rfl, h1, r1⟩ := rx.eLst
      refine .inr (.inr (.inl ⟨_, _, _, rfl, ry.eInt, h1, by omega, by omega, by rw [r1.length]; exact h.2.2, fun p hp => ?_⟩))
      have sm := same_new (o := .lst (List.replicate i.toNat vs).flatten) hp
      exact k _ _ (st.same sm) sm (rpl_lay st hp (r1.rep _))
    · cases e
  · split at e
    · cases e
      rename_i i xs h
      obtain ⟨p1, vs, rfl, h1, r1⟩ := rx.eTup
      refine .inr (.inr (.inr ⟨_, _, _, rfl, ry.eInt, h1, fun q => h.1 (by have := r1.length; rw [q] at this; exact List.eq_nil_of_length_eq_zero this.symm), h.2.1, h.2.2.1, by rw [r1.length]; exact h.2.2.2, fun p hp => ?_⟩))
      have sm := same_new (o := .tup (List.replicate i.toNat vs).flatten) hp
      exact k _ _ (st.same sm) sm (rpl_scal (.tup (.inl upd_same) ((Keep.of_same sm).rpAll (r1.rep _))) nofun)
    · cases e

/-! ### comparisons -/
abbrev EvC (X : Cx) (c : Cn) (op : CmpOp) (g : D → D → Option D) : Prop := ∀ {a b : Expr} {la lb : Lv} {qa qb : Bool} {ma mb : M D} {pos : Pos}, EvOk X c a la qa ma → EvOk X c b lb qb mb → (la.p || qb) = true → la.t = true → lb.t = true → behindInMarks op b = false →
  EvOk X c (.Compare a [op] [b] pos) .new (qa && qb) (ma.bind fun d => mb.bind fun f => M.lift (g d f))
/-- an operation by values that tells g -/
def Tells (X : Cx) (c : Cn) (r : R2) (g : D → D → Option D) : Prop := ∀ O U σ H ρ x y d f z Q, Sto c.K c.S O U σ H ρ → RpT c.K (Av O U) H x d → RpT c.K (Av O U) H y f → g d f = some z →
      (∀ v H', Sto c.K c.S O U σ H' ρ → Same H H' → RpL c.K c.P .new O U H H' (StT c U σ H' ρ) v z → Q v H') → r x y H Q
structure CmpR (X : Cx) (c : Cn) (op : CmpOp) (g : D → D → Option D) : Prop where
  ex : ∃ r, OpR X (compareOp op) r ∧ Tells X c r g
theorem ev_cmp {op : CmpOp} {g : D → D → Option D} (h : CmpR X c op g) : EvC X c op g := fun ⟨_, p1, t1⟩ ⟨_, p2, t2⟩ hs h1 h2 hm => by
  obtain ⟨r, ho, hr⟩ := h
  exact ev_op2 _ (pe_cmpR ho p1 p2 hm) t1 t2 hs h1 h2 hr
def shp (d : D) : Bool := SeqAt.shaped d
def dEq0 (d f : D) : Option D := if shp d = true ∧ shp f = true then some (.bool (PyData.eqv d f)) else none
def dNe0 (d f : D) : Option D := if shp d = true ∧ shp f = true then some (.bool (!PyData.eqv d f)) else none
def dEq : D → D → Option D
  | .str a, .str b => some (.bool (decide (a = b)))
  | d, f => dEq0 d f
def dNe : D → D → Option D
  | .str a, .str b => some (.bool (!decide (a = b)))
  | d, f => dNe0 d f
theorem dEq_cases {d f z : D} (h : dEq d f = some z) : (∃ a b, d = .str a ∧ f = .str b ∧ z = .bool (decide (a = b))) ∨ dEq0 d f = some z := by
  cases d <;> cases f <;> first | exact .inr h | exact .inl ⟨_, _, rfl, rfl, (Option.some.inj h).symm⟩
theorem dNe_cases {d f z : D} (h : dNe d f = some z) : (∃ a b, d = .str a ∧ f = .str b ∧ z = .bool (!decide (a = b))) ∨ dNe0 d f = some z := by
  cases d <;> cases f <;> first | exact .inr h | exact .inl ⟨_, _, rfl, rfl, (Option.some.inj h).symm⟩
theorem shp_lay {d : D} (h : shp d = true) : PyData.canLay0 d = true := SeqAt.canLay_of_shaped h
theorem k_bl {c : Cn} {O : AS} {U : Nat → Option Addr} {σ : L2.St} {H : Hp} {ρ : Ev} {b : Bool} {Q : VK} (st : Sto c.K c.S O U σ H ρ)
    (k : ∀ v H', Sto c.K c.S O U σ H' ρ → Same H H' → RpL c.K c.P .new O U H H' (StT c U σ H' ρ) v (.bool b) → Q v H') : Q (.bl b) H := k _ H st (Same.refl H) (rpl_scal (.bl b) nofun)
theorem cmp_eq (F : Fit X c) (hu : X.A.units + 65 < cLine) : CmpR X c .Eq dEq := ⟨_, OpR.or op_eq (op_eqD (by omega)), fun O U σ H ρ x y d f z Q st rx ry e k => by
  rcases dEq_cases e with ⟨a, b, rfl, rfl, rfl⟩ | e
  · refine .inl ?_
    rw [rx.eStr, ry.eStr]
    refine ⟨rfl, ?_⟩
    rw [show decide (V.str a = V.str b) = decide (a = b) by rw [Bool.eq_iff_iff]; simp]
    exact k_bl st k
  unfold dEq0 at e
  split at e
  · rename_i h
    cases e
    rw [F.K]
    exact .inr ⟨d, f, rx.low.dp (shp_lay h.1), ry.low.dp (shp_lay h.2), h.1, h.2, k_bl st k⟩
  · cases e⟩
theorem cmp_ne (F : Fit X c) (hu : X.A.units + 65 < cLine) : CmpR X c .NotEq dNe := ⟨_, OpR.or op_ne (op_neD (by omega)), fun O U σ H ρ x y d f z Q st rx ry e k => by
  rcases dNe_cases e with ⟨a, b, rfl, rfl, rfl⟩ | e
  · refine .inl ?_
    rw [rx.eStr, ry.eStr]
    refine ⟨rfl, ?_⟩
    rw [show decide (V.str a = V.str b) = decide (a = b) by rw [Bool.eq_iff_iff]; simp]
    exact k_bl st k
  unfold dNe0 at e
  split at e
  · rename_i h
    cases e
    rw [F.K]
    exact .inr ⟨d, f, rx.low.dp (shp_lay h.1), ry.low.dp (shp_lay h.2), h.1, h.2, k_bl st k⟩
  · cases e⟩
def strLt (a b : Str) : Bool := decide (a.cps.toList < b.cps.toList)
def dLt : D → D → Option D
  | .int i, .int j => some (.bool (decide (i < j)))
  | .str a, .str b => some (.bool (strLt a b))
  | _, _ => none
def dLe : D → D → Option D
  | .int i, .int j => some (.bool (decide (i ≤ j)))
  | .str a, .str b => some (.bool (!strLt b a))
  | _, _ => none
def dGt : D → D → Option D
  | .int i, .int j => some (.bool (decide (j < i)))
  | .str a, .str b => some (.bool (strLt b a))
  | _, _ => none
def dGe : D → D → Option D
  | .int i, .int j => some (.bool (decide (j ≤ i)))
  | .str a, .str b => some (.bool (!strLt a b))
  | _, _ => none
theorem cmp_lt : CmpR X c .Lt dLt := ⟨_, OpR.or op_lt op_lt_str, fun O U σ H ρ x y d f z Q st rx ry e k => by
  cases d <;> cases f <;> simp only [dLt, Option.some.injEq, reduceCtorEq] at e <;> subst e
  · exact .inl ⟨_, _, rx.eInt, ry.eInt, k_bl st k⟩
  · exact .inr ⟨_, _, rx.eStr, ry.eStr, k_bl st k⟩⟩
theorem cmp_le : CmpR X c .LtE dLe := ⟨_, OpR.or op_le op_le_str, fun O U σ H ρ x y d f z Q st rx ry e k => by
  cases d <;> cases f <;> simp only [dLe, Option.some.injEq, reduceCtorEq] at e <;> subst e
  · exact .inl ⟨_, _, rx.eInt, ry.eInt, k_bl st k⟩
  · exact .inr ⟨_, _, rx.eStr, ry.eStr, k_bl st k⟩⟩
theorem cmp_gt : CmpR X c .Gt dGt := ⟨_, OpR.or op_gt op_gt_str, fun O U σ H ρ x y d f z Q st rx ry e k => by
  cases d <;> cases f <;> simp only [dGt, Option.some.injEq, reduceCtorEq] at e <;> subst e
  · exact .inl ⟨_, _, rx.eInt, ry.eInt, k_bl st k⟩
  · exact .inr ⟨_, _, rx.eStr, ry.eStr, k_bl st k⟩⟩
theorem cmp_ge : CmpR X c .GtE dGe := ⟨_, OpR.or op_ge op_ge_str, fun O U σ H ρ x y d f z Q st rx ry e k => by
  cases d <;> cases f <;> simp only [dGe, Option.some.injEq, reduceCtorEq] at e <;> subst e
  · exact .inl ⟨_, _, rx.eInt, ry.eInt, k_bl st k⟩
  · exact .inr ⟨_, _, rx.eStr, ry.eStr, k_bl st k⟩⟩
/-! in: a text in a text; a thing in a list, a tuple -/
def strIn (a b : Str) : Bool := !(Builtin.Str.occurrences b a 0 b.length 1).isEmpty
def flatD : D → Bool
  | .none => true
  | .bool _ => true
  | .int _ => true
  | .str _ => true
  | _ => false
def anyEq (d : D) (ds : List D) : Bool := ds.any fun z => PyData.eqv z d
def dIn (d : D) : D → Option D
  | .str b => match d with
    | .str a => some (.bool (strIn a b))
    | _ => none
  | .list ds => if shp d = true ∧ shp (.list ds) = true then some (.bool (anyEq d ds)) else none
  | .tuple ds => if flatD d = true ∧ ds.all flatD = true then some (.bool (anyEq d ds)) else none
  | _ => none
def dNi (d : D) : D → Option D
  | .str b => match d with
    | .str a => some (.bool (!strIn a b))
    | _ => none
  | .list ds => if shp d = true ∧ shp (.list ds) = true then some (.bool (!anyEq d ds)) else none
  | .tuple ds => if flatD d = true ∧ ds.all flatD = true then some (.bool (!anyEq d ds)) else none
  | _ => none
theorem Rp.flat {K : Fr} {A : AS} {H : Hp} {v : V} {d : D} (r : Rp K A H v d) (h : flatD d = true) : flatV v = true := by
  cases r <;> first | rfl | (cases h; done)
theorem RpAll.flat {K : Fr} {A : AS} {H : Hp} : ∀ {vs : List V} {ds : List D}, RpAll K A H vs ds → ds.all flatD = true → vs.all flatV = true
  | _, _, .nil, _ => rfl
  | _, _, .cons h r, e => by
    rw [List.all_cons, Bool.and_eq_true] at e
    rw [List.all_cons, h.flat e.1, RpAll.flat r e.2]; rfl
theorem eqv_V {K : Fr} {A : AS} {H : Hp} {x y : V} {d f : D} (r : Rp K A H x d) (q : Rp K A H y f) (h : flatD d = true) (g : flatD f = true) : eqV y x = PyData.eqv f d := by
  cases r <;> first | (cases h; done) | (cases q <;> first | (cases g; done) | simp [eqV, PyData.eqv])
theorem inV_any {K : Fr} {A : AS} {H : Hp} {x : V} {d : D} (r : Rp K A H x d) (h : flatD d = true) : ∀ {vs : List V} {ds : List D}, RpAll K A H vs ds → ds.all flatD = true → inV x vs = anyEq d ds
  | _, _, .nil, _ => rfl
  | _, _, .cons (v := v) (d := f) (vs := vs) (ds := ds) q s, e => by
    rw [List.all_cons, Bool.and_eq_true] at e
    show (eqV v x || inV x vs) = (PyData.eqv f d || anyEq d ds)
    rw [eqv_V r q h e.1, inV_any r h s e.2]
theorem cmp_in (F : Fit X c) (hu : X.A.units + 65 < cLine) : CmpR X c .In dIn := ⟨_, OpR.or op_in_str (OpR.or op_in_seq (op_inD hu)), fun O U σ H ρ x y d f z Q st rx ry e k => by
  unfold dIn at e
  split at e
  · split at e
    · cases e
      exact .inl ⟨_, _, rx.eStr, ry.eStr, k_bl st k⟩
    · cases e
  · split at e
    · cases e
      rename_i h
      rw [F.K]
      exact .inr (.inr ⟨d, _, rx.low.dp (shp_lay h.1), ry.low.dp (shp_lay h.2), h.1, h.2, k_bl st k⟩)
    · cases e
  · split at e
    · cases e
      rename_i h
      obtain ⟨p, vs, rfl, h1, r1⟩ := ry.eTup
      rw [F.K]
      refine .inr (.inl ⟨p, vs, rfl, .inr h1, rx.low.flat h.1, r1.flat h.2, ?_⟩)
      have e := inV_any rx.low h.1 r1.low h.2
      rw [e]
      exact k_bl st k
    · cases e
  · cases e⟩
theorem cmp_ni (F : Fit X c) (hu : X.A.units + 65 < cLine) : CmpR X c .NotIn dNi := ⟨_, OpR.or L2.op_notIn_str (OpR.or op_notIn_seq (op_notInD hu)), fun O U σ H ρ x y d f z Q st rx ry e k => by
  unfold dNi at e
  split at e
  · split at e
    · cases e
      exact .inl ⟨_, _, rx.eStr, ry.eStr, k_bl st k⟩
    · cases e
  · split at e
    · cases e
      rename_i h
      rw [F.K]
      exact .inr (.inr ⟨d, _, rx.low.dp (shp_lay h.1), ry.low.dp (shp_lay h.2), h.1, h.2, k_bl st k⟩)
    · cases e
  · split at e
    · cases e
      rename_i h
      obtain ⟨p, vs, rfl, h1, r1⟩ := ry.eTup
      rw [F.K]
      refine .inr (.inl ⟨p, vs, rfl, .inr h1, rx.low.flat h.1, r1.flat h.2, ?_⟩)
      have e := inV_any rx.low h.1 r1.low h.2
      rw [e]
      exact k_bl st k
    · cases e
  · cases e⟩
/-! is: None, flags -/
def isN : D → Bool
  | .none => true
  | _ => false
def dIs : D → D → Option D
  | d, .none => some (.bool (isN d))
  | .bool a, .bool b => some (.bool (a == b))
  | _, _ => none
def dIsNot : D → D → Option D
  | d, .none => some (.bool (!isN d))
  | .bool a, .bool b => some (.bool (!(a == b)))
  | _, _ => none
theorem Rp.non_iff {K : Fr} {A : AS} {H : Hp} {v : V} {d : D} (r : Rp K A H v d) : decide (v = .non) = isN d := by
  cases r <;> rfl
theorem cmp_is : CmpR X c .Is dIs := ⟨_, OpR.or op_isN op_isBl, fun O U σ H ρ x y d f z Q st rx ry e k => by
  cases f with
  | none =>
    simp only [dIs, Option.some.injEq] at e
    subst e
    refine .inl ⟨ry.eNon, ?_⟩
    rw [rx.low.non_iff]
    exact k_bl st k
  | bool b =>
    cases d <;> simp only [dIs, Option.some.injEq, reduceCtorEq] at e
    subst e
    refine .inr ⟨_, _, rx.eBl, ry.eBl, ?_⟩
    rw [← Bool.beq_eq_decide_eq]
    exact k_bl st k
  | _ => cases d <;> simp [dIs] at e⟩
theorem cmp_isnot : CmpR X c .IsNot dIsNot := ⟨_, OpR.or op_notN op_notBl, fun O U σ H ρ x y d f z Q st rx ry e k => by
  cases f with
  | none =>
    simp only [dIsNot, Option.some.injEq] at e
    subst e
    refine .inl ⟨ry.eNon, ?_⟩
    rw [rx.low.non_iff]
    exact k_bl st k
  | bool b =>
    cases d <;> simp only [dIsNot, Option.some.injEq, reduceCtorEq] at e
    subst e
    refine .inr ⟨_, _, rx.eBl, ry.eBl, ?_⟩
    rw [← Bool.beq_eq_decide_eq]
    exact k_bl st k
  | _ => cases d <;> simp [dIsNot] at e⟩
end
end Cr
end
section
set_option Elab.async false
set_option linter.all false
set_option maxRecDepth 100000
set_option maxHeartbeats 4000000
namespace Cr
open PySem PySem.Spec L2
set_option autoImplicit false
/-! ### tests -/
abbrev RelB : Rel Bool Bool := fun _ _ _ _ _ b a => b = a
theorem ant_b : Ant RelB := fun _ _ _ _ _ _ _ _ _ _ h => h
structure TtOk (X : Cx) (c : Cn) (e : Expr) (q : Bool) (m : M Bool) : Prop where
  ex : ∃ te, PT X e te ∧ Tr c RelB q te m
/-- for and, or -/
structure TwOk (X : Cx) (c : Cn) (e : Expr) (q : Bool) (m : M Bool) : Prop where
  ex : ∃ te, PW X e te ∧ Tr c RelB q te m
def dTru : D → Option Bool
  | .none => some false
  | .bool b => some b
  | .int i => some (i != 0)
  | .str y => if y.length ≤ sizeLine then some ((y.length : Int) != 0) else none
  | .list ds => some (!ds.isEmpty)
  | .tuple ds => some (!ds.isEmpty)
  | .dict kvs => if isScr kvs = true then none else some (!kvs.isEmpty)
section
variable {X : Cx} {c : Cn} {pos : Pos}
theorem RpAll.isEmpty {K : Fr} {A : AS} {H : Hp} {vs : List V} {ds : List D} (r : RpAll K A H vs ds) : vs.isEmpty = ds.isEmpty := by
  cases r <;> rfl
theorem tru_of {K : Fr} {A : AS} {H : Hp} {v : V} {d : D} {b : Bool} (r : Rp K A H v d) (h : dTru d = some b) : TruV K v H b := by
  cases r with
  | non => simp only [dTru, Option.some.injEq] at h; exact h.symm
  | bl b => simp only [dTru, Option.some.injEq] at h; exact h.symm
  | int i => simp only [dTru, Option.some.injEq] at h; exact h.symm
  | str y =>
    simp only [dTru] at h
    split at h
    · cases h; exact ⟨by assumption, rfl⟩
    · cases h
  | lst h' n r => simp only [dTru, Option.some.injEq] at h; exact .inl ⟨_, SqL.of h', by rw [r.isEmpty]; exact h.symm⟩
  | tup h' r =>
    simp only [dTru, Option.some.injEq] at h
    exact .inr (.inl ⟨_, h'.imp (fun q => .inl q) id, by rw [r.isEmpty]; exact h.symm⟩)
  | scr _ _ => simp [dTru, isScr] at h
  | @dct a kvs ds h' n r e =>
    simp only [dTru, key_scr e, Option.some.injEq, Bool.false_eq_true, if_false] at h
    refine .inr (.inr ⟨_, h', ?_⟩)
    have : kvs.isEmpty = ds.isEmpty := by
      have := congrArg List.length e
      simp at this
      cases kvs <;> cases ds <;> simp_all
    rw [this]; exact h.symm
/-- an expression of any kind, by its truth -/
theorem tt_truth (F : Fit X c) {e : Expr} {l : Lv} {q : Bool} {m : M D} (h : EvOk X c e l q m) (he : ∀ whole, isTrue e X.env whole = (do let v ← whole; standAt e.pos; holding [v] (truthy v))) : TtOk X c e q (m.bind fun d => M.lift (dTru d)) := by
  obtain ⟨te, p, t⟩ := h
  refine ⟨_, pt_truth p he, ?_⟩
  have := Tr.bind (q2 := true) (f := fun d => M.lift (dTru d)) (t2 := fun x _ H1 Q => ∃ k, TruV X.K x H1 k ∧ Q k H1) ant_b t (fun a b O U σ H H1 ρ Q st k s r h => by
    unfold M.lift at h
    cases e : dTru a with
    | none => simp only [e] at h; exact h.elim
    | some k =>
      simp only [e] at h
      exact ⟨k, F.K ▸ tru_of r.b e, h k H1 st Keep.refl (fun _ => Same.refl H1) rfl⟩) rfl
  rw [Bool.and_true] at this
  exact this
/-- a comparison, as a test -/
theorem tt_op {e : Expr} {l : Lv} {q : Bool} {m : M D} {te : TE} (p : PT X e (tTest te)) (t : Tr c (RpL c.K c.P l) q te m) : TtOk X c e q (m.bind fun d => M.lift (match d with | .bool b => some b | _ => none)) := by
  refine ⟨_, p, ?_⟩
  have := Tr.bind (q2 := true) (f := fun d => M.lift (match d with | .bool b => some b | _ => none)) (t2 := fun x _ H1 Q => ∃ k, x = .bl k ∧ Q k H1) ant_b t (fun a b O U σ H H1 ρ Q st k s r h => by
    cases a with
    | bool k => exact ⟨k, r.b.eBl, h k H1 st Keep.refl (fun _ => Same.refl H1) rfl⟩
    | _ => exact h.elim) rfl
  rw [Bool.and_true] at this
  exact this
def dB : D → Option Bool
  | .bool b => some b
  | _ => none
theorem tt_cmp {op : CmpOp} {g : D → D → Option D} (h : CmpR X c op g) {a b : Expr} {la lb : Lv} {qa qb : Bool} {ma mb : M D} {pos : Pos} (ha : EvOk X c a la qa ma) (hb : EvOk X c b lb qb mb) (hs : (la.p || qb) = true) (h1 : la.t = true) (h2 : lb.t = true) (hm : behindInMarks op b = false) :
    TtOk X c (.Compare a [op] [b] pos) (qa && qb) ((ma.bind fun d => mb.bind fun f => M.lift (g d f)).bind fun d => M.lift (dB d)) := by
  obtain ⟨r, ho, hr⟩ := h
  obtain ⟨ta, p1, t1⟩ := ha
  obtain ⟨tb, p2, t2⟩ := hb
  refine ⟨_, pt_cmpR ho p1 p2 hm, ?_⟩
  have t := tr_op2 .new t1 t2 hs h1 h2 hr
  have := Tr.bind (q2 := true) (f := fun d => M.lift (dB d)) (t2 := fun x _ H1 Q => ∃ k, x = .bl k ∧ Q k H1) ant_b t (fun a b O U σ H H1 ρ Q st k s r h => by
    cases a with
    | bool k => exact ⟨k, r.b.eBl, h k H1 st Keep.refl (fun _ => Same.refl H1) rfl⟩
    | _ => exact h.elim) rfl
  rw [Bool.and_true] at this
  exact this
theorem ant_pass {α β γ : Type} {c : Cn} {R : Rel β α} {R' : Rel β α} {O : AS} {U : Nat → Option Addr} {σ : L2.St} {H : Hp} {q : Bool} {o : Oc α} {Q : β → Hp → Prop} (hh : ∀ H' T b a, R O U H H' T b a → R' O U H H' T b a) (h : Res c R' O U σ H q o Q) : Res c R O U σ H q o Q := by
  cases o with
  | ok a ρ => exact fun b H' st k s r => h b H' st k s (hh _ _ _ _ r)
  | exc x ρ => exact h
  | bad => exact h
def M.band (a b : M Bool) : M Bool := a.bind fun x => cond x b (M.pure false)
def M.bor (a b : M Bool) : M Bool := a.bind fun x => cond x (M.pure true) b
def M.bnot (a : M Bool) : M Bool := a.bind fun x => M.pure (!x)
def M.cmpB (m : M D) : M Bool := m.bind fun d => M.lift (dB d)
def M.tru (m : M D) : M Bool := m.bind fun d => M.lift (dTru d)
theorem tt_not {e : Expr} {q : Bool} {m : M Bool} (h : TtOk X c e q m) : TtOk X c (.UnaryOp .Not e pos) q (M.bnot m) := by
  obtain ⟨te, p, t⟩ := h
  refine ⟨_, pt_not p, ?_⟩
  have := Tr.bind (q2 := true) (f := fun x => M.pure (!x)) (t2 := fun x _ H1 Q => Q (!x) H1) ant_b t (fun a b O U σ H H1 ρ Q st k s r h => by
    have r : b = a := r
    subst r
    exact h (!b) H1 st Keep.refl (fun _ => Same.refl H1) rfl) rfl
  rw [Bool.and_true] at this
  exact this
theorem res_b {O : AS} {U : Nat → Option Addr} {σ : L2.St} {H : Hp} {q : Bool} {b : Bool} {ρ : Ev} {Q : Bool → Hp → Prop} (st : Sto c.K c.S O U σ H ρ) (h : Res c RelB O U σ H q (M.pure b ρ) Q) : Q b H := h b H st Keep.refl (fun _ => Same.refl H) rfl
theorem tw_and {a b : Expr} {rest : List Expr} {qa qb : Bool} {ma mb : M Bool} (ha : TtOk X c a qa ma) (hb : TwOk X c (.BoolOp .And (b :: rest) pos) qb mb) : TwOk X c (.BoolOp .And (a :: b :: rest) pos) (qa && qb) (M.band ma mb) := by
  obtain ⟨ta, p1, t1⟩ := ha
  obtain ⟨tb, p2, t2⟩ := hb
  refine ⟨_, pw_and p1 p2, ?_⟩
  refine Tr.bind (t2 := fun x σ H1 Q => if x = true then tb σ H1 Q else Q false H1) ant_b t1 (fun a b O U σ H H1 ρ Q st k s r h => ?_) rfl
  have r : b = a := r
  subst r
  cases b with
  | true => exact t2 O U σ H1 ρ Q st h
  | false => exact res_b st h
theorem tw_and1 {a : Expr} {qa : Bool} {ma : M Bool} (ha : TtOk X c a qa ma) : TwOk X c (.BoolOp .And [a] pos) qa ma := by
  obtain ⟨ta, p1, t1⟩ := ha
  exact ⟨_, pw_and1 p1, t1⟩
theorem tw_or {a b : Expr} {rest : List Expr} {qa qb : Bool} {ma mb : M Bool} (ha : TtOk X c a qa ma) (hb : TwOk X c (.BoolOp .Or (b :: rest) pos) qb mb) : TwOk X c (.BoolOp .Or (a :: b :: rest) pos) (qa && qb) (M.bor ma mb) := by
  obtain ⟨ta, p1, t1⟩ := ha
  obtain ⟨tb, p2, t2⟩ := hb
  refine ⟨_, pw_or p1 p2, ?_⟩
  refine Tr.bind (t2 := fun x σ H1 Q => if x = true then Q true H1 else tb σ H1 Q) ant_b t1 (fun a b O U σ H H1 ρ Q st k s r h => ?_) rfl
  have r : b = a := r
  subst r
  cases b with
  | true => exact res_b st h
  | false => exact t2 O U σ H1 ρ Q st h
theorem tw_or1 {a : Expr} {qa : Bool} {ma : M Bool} (ha : TtOk X c a qa ma) : TwOk X c (.BoolOp .Or [a] pos) qa ma := by
  obtain ⟨ta, p1, t1⟩ := ha
  exact ⟨_, pw_or1 p1, t1⟩
theorem TwOk.tt {e : Expr} {q : Bool} {m : M Bool} (h : TwOk X c e q m) : TtOk X c e q m := by
  obtain ⟨ta, p1, t1⟩ := h
  exact ⟨_, p1.pt, t1⟩
/-! ### the same as values -/
def M.andV (a b : M D) : M D := a.bind fun d => match d with
  | .bool true => b
  | .bool false => M.pure (.bool false)
  | _ => M.bad
def M.orV (a b : M D) : M D := a.bind fun d => match d with
  | .bool true => M.pure (.bool true)
  | .bool false => b
  | _ => M.bad
def M.notV (a : M D) : M D := a.bind fun d => match d with
  | .bool b => M.pure (.bool (!b))
  | _ => M.bad
theorem res_s {l : Lv} {O : AS} {U : Nat → Option Addr} {σ : L2.St} {H : Hp} {q : Bool} {v : V} {d : D} {ρ : Ev} {Q : VK} (st : Sto c.K c.S O U σ H ρ) (r : Rp c.K (Av O U) H v d) (nl : ∀ ds, d ≠ .list ds) (h : Res c (RpL c.K c.P l) O U σ H q (M.pure d ρ) Q) : Q v H :=
  h v H st Keep.refl (fun _ => Same.refl H) (rpl_scal r nl)
theorem ev_and {a b : Expr} {rest : List Expr} {la lb : Lv} {qa qb : Bool} {ma mb : M D} (ha : EvOk X c a la qa ma) (hb : EvOk X c (.BoolOp .And (b :: rest) pos) lb qb mb) : EvOk X c (.BoolOp .And (a :: b :: rest) pos) lb (qa && qb) (M.andV ma mb) := by
  obtain ⟨ta, p1, t1⟩ := ha
  obtain ⟨tb, p2, t2⟩ := hb
  refine ⟨_, pe_and p1 p2, ?_⟩
  refine Tr.bind (t2 := fun x σ H1 Q => ∃ k, x = .bl k ∧ if k = true then tb σ H1 Q else Q (.bl false) H1) ant_rpl t1 (fun a b O U σ H H1 ρ Q st k s r h => ?_) rfl
  match a, r, h with
  | .bool true, r, h => exact ⟨true, r.b.eBl, t2 O U σ H1 ρ Q st h⟩
  | .bool false, r, h => exact ⟨false, r.b.eBl, res_s st (.bl false) nofun h⟩
theorem ev_or {a b : Expr} {rest : List Expr} {la lb : Lv} {qa qb : Bool} {ma mb : M D} (ha : EvOk X c a la qa ma) (hb : EvOk X c (.BoolOp .Or (b :: rest) pos) lb qb mb) : EvOk X c (.BoolOp .Or (a :: b :: rest) pos) lb (qa && qb) (M.orV ma mb) := by
  obtain ⟨ta, p1, t1⟩ := ha
  obtain ⟨tb, p2, t2⟩ := hb
  refine ⟨_, pe_or p1 p2, ?_⟩
  refine Tr.bind (t2 := fun x σ H1 Q => ∃ k, x = .bl k ∧ if k = true then Q (.bl true) H1 else tb σ H1 Q) ant_rpl t1 (fun a b O U σ H H1 ρ Q st k s r h => ?_) rfl
  match a, r, h with
  | .bool true, r, h => exact ⟨true, r.b.eBl, res_s st (.bl true) nofun h⟩
  | .bool false, r, h => exact ⟨false, r.b.eBl, t2 O U σ H1 ρ Q st h⟩
theorem ev_one {op : PySem.BoolOp} {a : Expr} {la : Lv} {qa : Bool} {ma : M D} (ha : EvOk X c a la qa ma) : EvOk X c (.BoolOp op [a] pos) la qa ma := by
  obtain ⟨ta, p1, t1⟩ := ha
  exact ⟨_, pe_one p1, t1⟩
theorem ev_not {a : Expr} {la : Lv} {qa : Bool} {ma : M D} (ha : EvOk X c a la qa ma) : EvOk X c (.UnaryOp .Not a pos) .new qa (M.notV ma) := by
  obtain ⟨ta, p1, t1⟩ := ha
  refine ⟨_, pe_not p1, ?_⟩
  have := Tr.bind (q2 := true) (f := fun d => match d with | .bool b => M.pure (.bool (!b)) | _ => M.bad) (t2 := fun x σ H1 Q => ∃ k, x = .bl k ∧ Q (.bl (!k)) H1) (ant_rpl (K := c.K) (P := c.P) (l := .new)) t1 (fun a b O U σ H H1 ρ Q st k s r h => by
    cases a with
    | bool k => exact ⟨k, r.b.eBl, res_s st (.bl _) nofun h⟩
    | _ => exact h.elim) rfl
  rw [Bool.and_true] at this
  exact this
/-- -i -/
def dNeg : D → Option D
  | .int i => some (.int (-i))
  | _ => none
theorem ev_neg {a : Expr} {la : Lv} {qa : Bool} {ma : M D} (ha : EvOk X c a la qa ma) : EvOk X c (.UnaryOp .USub a pos) .new qa (ma.bind fun d => M.lift (dNeg d)) := by
  obtain ⟨ta, p1, t1⟩ := ha
  refine ⟨_, pe_un un_neg p1, ?_⟩
  have := Tr.bind (q2 := true) (f := fun d => M.lift (dNeg d)) (t2 := fun x σ H1 Q => rU (fun i => .int (-i)) x H1 Q) (ant_rpl (K := c.K) (P := c.P) (l := .new)) t1 (fun a b O U σ H H1 ρ Q st k s r h => by
    cases a with
    | int k => exact ⟨k, r.b.eInt, res_s st (.int _) nofun h⟩
    | _ => exact h.elim) rfl
  rw [Bool.and_true] at this
  exact this
def Lv.and (a b : Lv) : Lv := ⟨a.t && b.t, a.r && b.r, a.p && b.p, a.f && b.f⟩
theorem RpL.andL {K : Fr} {P : Nat → Bool} {l l' : Lv} {O : AS} {U : Nat → Option Addr} {H0 H : Hp} {T : AS → Prop} {v : V} {d : D} (r : RpL K P l O U H0 H T v d) : RpL K P (l.and l') O U H0 H T v d :=
  ⟨r.b, fun z => r.t (Bool.and_eq_true_iff.mp z).1, fun z => r.r (Bool.and_eq_true_iff.mp z).1, fun z => r.p (Bool.and_eq_true_iff.mp z).1, fun z => r.f (Bool.and_eq_true_iff.mp z).1⟩
theorem RpL.andR {K : Fr} {P : Nat → Bool} {l l' : Lv} {O : AS} {U : Nat → Option Addr} {H0 H : Hp} {T : AS → Prop} {v : V} {d : D} (r : RpL K P l' O U H0 H T v d) : RpL K P (l.and l') O U H0 H T v d :=
  ⟨r.b, fun z => r.t (Bool.and_eq_true_iff.mp z).2, fun z => r.r (Bool.and_eq_true_iff.mp z).2, fun z => r.p (Bool.and_eq_true_iff.mp z).2, fun z => r.f (Bool.and_eq_true_iff.mp z).2⟩
theorem Res.weakQ {α β : Type} {R : Rel β α} {O : AS} {U : Nat → Option Addr} {σ : L2.St} {H : Hp} {q q' : Bool} {o : Oc α} {Q : β → Hp → Prop} (hq : q' = true → q = true) (h : Res c R O U σ H q' o Q) : Res c R O U σ H q o Q := by
  cases o with
  | ok a ρ => exact fun b H' st k s r => h b H' st k (fun z => s (hq z)) r
  | exc x ρ => exact h
  | bad => exact h
def M.ife {α : Type} (t : M Bool) (a b : M α) : M α := t.bind fun x => cond x a b
theorem ev_if {t a b : Expr} {la lb : Lv} {qt qa qb : Bool} {mt : M Bool} {ma mb : M D} (ht : TtOk X c t qt mt) (ha : EvOk X c a la qa ma) (hb : EvOk X c b lb qb mb) : EvOk X c (.IfExp t a b pos) (la.and lb) (qt && (qa && qb)) (M.ife mt ma mb) := by
  obtain ⟨tt, p0, t0⟩ := ht
  obtain ⟨ta, p1, t1⟩ := ha
  obtain ⟨tb, p2, t2⟩ := hb
  refine ⟨_, pe_ifExp p0 p1 p2, ?_⟩
  refine Tr.bind (t2 := fun x σ H1 Q => if x = true then ta σ H1 Q else tb σ H1 Q) ant_rpl t0 (fun a b O U σ H H1 ρ Q st k s r h => ?_) rfl
  have r : b = a := r
  subst r
  cases b with
  | true => exact t1 O U σ H1 ρ Q st (ant_pass (γ := Unit) (fun _ _ _ _ r => r.andL) (h.weakQ fun z => (Bool.and_eq_true_iff.mp z).1))
  | false => exact t2 O U σ H1 ρ Q st (ant_pass (γ := Unit) (fun _ _ _ _ r => r.andR) (h.weakQ fun z => (Bool.and_eq_true_iff.mp z).2))
/-- a < b < c -/
def M.chain (g g' : D → D → Option D) (ma mb md : M D) : M D := ma.bind fun x => mb.bind fun y => (M.lift (g x y)).bind fun z => match z with
      | .bool true => md.bind fun w => M.lift (g' y w)
      | .bool false => M.pure (.bool false)
      | _ => M.bad
theorem chain_both {op op' : CmpOp} {g g' : D → D → Option D} (h : CmpR X c op g) (h' : CmpR X c op' g') {a b d : Expr} {la lb ld : Lv} {qa qb qd : Bool} {ma mb md : M D} (ha : EvOk X c a la qa ma) (hb : EvOk X c b lb qb mb) (hd : EvOk X c d ld qd md)
    (hs : (la.p || qb) = true) (h1 : la.t = true) (h2 : lb.t = true) (hs' : (lb.p || qd) = true) (h3' : ld.t = true) (hm : lastMarks [op, op'] [b, d] = false) :
    ∃ te : TE, PE X (.Compare a [op, op'] [b, d] pos) te ∧ PT X (.Compare a [op, op'] [b, d] pos) (tTest te) ∧ Tr c (RpL c.K c.P .new) (qa && (qb && qd)) te (M.chain g g' ma mb md) := by
  obtain ⟨r, ho, hr⟩ := h
  obtain ⟨r', ho', hr'⟩ := h'
  obtain ⟨ta, p1, t1⟩ := ha
  obtain ⟨tb, p2, t2⟩ := hb
  obtain ⟨td, p3, t3⟩ := hd
  refine ⟨_, pe_chain ho ho' p1 p2 p3 hm, pt_chain ho ho' p1 p2 p3 hm, ?_⟩
  refine Tr.bind (t2 := fun x σ H1 Q => tb σ H1 fun y H2 => r x y H2 fun z H3 => ∃ k, z = .bl k ∧ (if k = true then td σ H3 fun w' H4 => r' y w' H4 Q else Q (.bl false) H3)) ant_rpl t1 (fun d x O U σ H H1 ρ Q st k s rx h => ?_) rfl
  have h' : Res c (RpL c.K c.P .new) O U σ H1 (qb && qd) ((mb ρ).bind fun y => (M.lift (g d y)).bind fun z => match z with
      | .bool true => md.bind fun w => M.lift (g' y w)
      | .bool false => M.pure (.bool false)
      | _ => M.bad) Q := h
  refine t2 O U σ H1 ρ _ st ?_
  cases eb : mb ρ with
  | exc x ρ1 => rw [eb] at h'; exact h'
  | bad => rw [eb] at h'; exact h'.elim
  | ok f ρ1 =>
    rw [eb] at h'
    intro y H2 st2 k2 s2 ry
    have h3 : Res c (RpL c.K c.P .new) O U σ H1 (qb && qd) ((M.lift (g d f) ρ1).bind fun z => match z with
      | .bool true => md.bind fun w => M.lift (g' f w)
      | .bool false => M.pure (.bool false)
      | _ => M.bad) Q := h'
    unfold M.lift at h3
    cases eg : g d f with
    | none => rw [eg] at h3; exact h3.elim
    | some z =>
      rw [eg] at h3
      refine hr O U σ H2 ρ1 x y d f z _ st2 (rx.stayT h1 hs k2 s2) (ry.t h2) eg fun v H' st3 s3 rv => ?_
      match z, rv, h3 with
      | .bool true, rv, h3 =>
        refine ⟨true, rv.b.eBl, ?_⟩
        show td σ H' _
        have h4 : Res c (RpL c.K c.P .new) O U σ H1 (qb && qd) ((md ρ1).bind fun w => M.lift (g' f w)) Q := h3
        refine t3 O U σ H' ρ1 _ st3 ?_
        cases ed : md ρ1 with
        | exc x ρ2 =>
          rw [ed] at h4
          exact fun cls dd H4 st4 k4 e => h4 cls dd H4 st4 ((k2.trans (Keep.of_same s3)).trans k4) e
        | bad => rw [ed] at h4; exact h4.elim
        | ok w' ρ2 =>
          rw [ed] at h4
          intro w H4 st4 k4 s4 rw'
          have h5 : Res c (RpL c.K c.P .new) O U σ H1 (qb && qd) (M.lift (g' f w') ρ2) Q := h4
          unfold M.lift at h5
          cases eg' : g' f w' with
          | none => rw [eg'] at h5; exact h5.elim
          | some z' =>
            rw [eg'] at h5
            refine hr' O U σ H4 ρ2 y w f w' z' Q st4 ?_ (rw'.t h3') eg' fun v' H5 st5 s5 rv' => ?_
            · rcases Bool.or_eq_true_iff.mp hs' with z | z
              · exact .of (k4.rp ((Keep.of_same s3).rp (ry.p z)))
              · exact ((ry.t h2).same s3).same (s4 z)
            · have kk := ((k2.trans (Keep.of_same s3)).trans k4).trans (Keep.of_same s5)
              refine h5 v' H5 st5 kk (fun z => ?_) (ant_rpl O U H1 H4 H5 _ v' z' ((k2.trans (Keep.of_same s3)).trans k4) st4.domU rv')
              obtain ⟨z1, z2⟩ := Bool.and_eq_true_iff.mp z
              exact (((s2 z1).trans s3).trans (s4 z2)).trans s5
      | .bool false, rv, h3 =>
        refine ⟨false, rv.b.eBl, ?_⟩
        exact h3 (.bl false) H' st3 (k2.trans (Keep.of_same s3)) (fun z => (s2 (Bool.and_eq_true_iff.mp z).1).trans s3) (rpl_scal (.bl false) nofun)
theorem ev_chain {op op' : CmpOp} {g g' : D → D → Option D} (h : CmpR X c op g) (h' : CmpR X c op' g') {a b d : Expr} {la lb ld : Lv} {qa qb qd : Bool} {ma mb md : M D} (ha : EvOk X c a la qa ma) (hb : EvOk X c b lb qb mb) (hd : EvOk X c d ld qd md)
    (hs : (la.p || qb) = true) (h1 : la.t = true) (h2 : lb.t = true) (hs' : (lb.p || qd) = true) (h3' : ld.t = true) (hm : lastMarks [op, op'] [b, d] = false) :
    EvOk X c (.Compare a [op, op'] [b, d] pos) .new (qa && (qb && qd)) (M.chain g g' ma mb md) :=
  let ⟨te, p, _, t⟩ := chain_both h h' ha hb hd hs h1 h2 hs' h3' hm
  ⟨te, p, t⟩
theorem tt_chain {op op' : CmpOp} {g g' : D → D → Option D} (h : CmpR X c op g) (h' : CmpR X c op' g') {a b d : Expr} {la lb ld : Lv} {qa qb qd : Bool} {ma mb md : M D} (ha : EvOk X c a la qa ma) (hb : EvOk X c b lb qb mb) (hd : EvOk X c d ld qd md)
    (hs : (la.p || qb) = true) (h1 : la.t = true) (h2 : lb.t = true) (hs' : (lb.p || qd) = true) (h3' : ld.t = true) (hm : lastMarks [op, op'] [b, d] = false) :
    TtOk X c (.Compare a [op, op'] [b, d] pos) (qa && (qb && qd)) ((M.chain g g' ma mb md).bind fun d => M.lift (dB d)) := by
  obtain ⟨te, _, p, t⟩ := chain_both h h' ha hb hd hs h1 h2 hs' h3' hm
  refine ⟨_, p, ?_⟩
  have := Tr.bind (q2 := true) (f := fun d => M.lift (dB d)) (t2 := fun x _ H1 Q => ∃ k, x = .bl k ∧ Q k H1) ant_b t (fun a b O U σ H H1 ρ Q st k s r h => by
    cases a with
    | bool k => exact ⟨k, r.b.eBl, h k H1 st Keep.refl (fun _ => Same.refl H1) rfl⟩
    | _ => exact h.elim) rfl
  rw [Bool.and_true] at this
  exact this
end
end Cr
end
section
set_option Elab.async false
set_option linter.all false
set_option maxRecDepth 100000
set_option maxHeartbeats 4000000
namespace Cr
open PySem PySem.Spec L2
set_option autoImplicit false
section
variable {X : Cx} {c : Cn} {pos : Pos}
/-! ### items and slices -/
def plainIx : Expr → Bool
  | .Slice _ _ _ _ => false
  | _ => true
theorem plain_ix {b : Expr} (h : plainIx b = true) : PlainIx b := fun o i => by
  cases b <;> first | rfl | (cases h; done)
theorem RpAll.atI {K : Fr} {A : AS} {H : Hp} {vs : List V} {ds : List D} {i : Int} {d : D} (r : RpAll K A H vs ds) (e : L2.atI ds i = some d) : ∃ v, L2.atI vs i = some v ∧ Rp K A H v d := by
  unfold L2.atI at e ⊢
  rw [r.length]
  cases q : ixN ds.length i with
  | none => rw [q] at e; cases e
  | some j =>
    rw [q] at e
    exact r.get e
def dIx : D → D → Option D
  | .list ds, .int i => L2.atI ds i
  | .tuple ds, .int i => L2.atI ds i
  | .str z, .int i => if z.length ≤ sizeLine then (L2.atI z.cps.toList i).map fun n => .str ⟨#[n]⟩ else none
  | _, _ => none
theorem ev_ix (F : Fit X c) {a b : Expr} {la lb : Lv} {qa qb : Bool} {ma mb : M D} (ha : EvOk X c a la qa ma) (hb : EvOk X c b lb qb mb) (hs : (la.p || qb) = true) (h1 : la.t = true) (h2 : lb.t = true) (hp : plainIx b = true) :
    EvOk X c (.Subscript a b pos) .pur (qa && qb) (ma.bind fun d => mb.bind fun f => M.lift (dIx d f)) := by
  obtain ⟨ta, p1, t1⟩ := ha
  obtain ⟨tb, p2, t2⟩ := hb
  refine ev_op2 _ (pe_ix (F.K ▸ ix_seq : IxR X (rIx c.K)) p1 p2 (plain_ix hp)) t1 t2 hs h1 h2 fun O U σ H ρ x y d f z Q st rx ry e k => ?_
  cases d <;> cases f <;> simp only [dIx, reduceCtorEq] at e
  · split at e
    · rename_i z' i hz
      cases q : L2.atI z'.cps.toList i with
      | none => rw [q] at e; cases e
      | some n =>
        rw [q] at e
        cases e
        exact .inr (.inr ⟨_, _, _, rx.eStr, ry.eInt, hz, q, k _ H st (Same.refl H) (rpl_pur (.str _))⟩)
    · cases e
  · obtain ⟨p, vs, rfl, h, r⟩ := rx.eLst
    obtain ⟨v, e1, r1⟩ := r.atI e
    exact .inl ⟨p, vs, _, v, rfl, ry.eInt, SqL.of h, e1, k _ H st (Same.refl H) (rpl_pur r1)⟩
  · obtain ⟨p, vs, rfl, h, r⟩ := rx.eTup
    obtain ⟨v, e1, r1⟩ := r.atI e
    exact .inr (.inl ⟨p, vs, _, v, rfl, ry.eInt, h, e1, k _ H st (Same.refl H) (rpl_pur r1)⟩)
/-! a slice's bound -/
abbrev RelO : Rel (Option Int) (Option Int) := fun _ _ _ _ _ b a => b = a
structure PoOk (X : Cx) (c : Cn) (e : Option Expr) (q : Bool) (m : M (Option Int)) : Prop where
  ex : ∃ te, PO X e te ∧ Tr c RelO q te m
theorem po_no : PoOk X c none true (M.pure none) := ⟨_, po_none, fun O U σ H ρ Q st h => h none H st Keep.refl (fun _ => Same.refl H) rfl⟩
def dI : D → Option (Option Int)
  | .int i => some (some i)
  | _ => none
theorem po_yes {e : Expr} {l : Lv} {q : Bool} {m : M D} (h : EvOk X c e l q m) : PoOk X c (some e) q (m.bind fun d => M.lift (dI d)) := by
  obtain ⟨te, p, t⟩ := h
  refine ⟨_, po_some p, ?_⟩
  have := Tr.bind (R := RelO) (q2 := true) (f := fun d => M.lift (dI d)) (t2 := fun x σ H1 Q => ∃ i, x = .int i ∧ Q (some i) H1) (fun _ _ _ _ _ _ _ _ _ _ h => h) t (fun a b O U σ H H1 ρ Q st k s r h => by
    cases a with
    | int i => exact ⟨i, r.b.eInt, h _ H1 st Keep.refl (fun _ => Same.refl H1) rfl⟩
    | _ => exact h.elim) rfl
  rw [Bool.and_true] at this
  exact this
def cutD {α : Type} (xs : List α) (lo hi : Option Int) : List α := (xs.drop (HT.sIx xs.length 0 lo)).take (HT.sIx xs.length xs.length hi - HT.sIx xs.length 0 lo)
theorem cutD_whole {α : Type} {xs : List α} {lo hi : Option Int} (h : HT.sIx xs.length 0 lo = 0 ∧ HT.sIx xs.length xs.length hi = xs.length) : cutD xs lo hi = xs := by
  unfold cutD
  rw [h.1, h.2]; simp
theorem RpAll.cut {K : Fr} {A : AS} {H : Hp} {vs : List V} {ds : List D} (r : RpAll K A H vs ds) (lo hi : Option Int) : RpAll K A H (cutV vs lo hi) (cutD ds lo hi) := by
  unfold cutV cutD
  rw [r.length]
  exact (r.drop _).take _
def dCut (lo hi : Option Int) : D → Option D
  | .list ds => some (.list (cutD ds lo hi))
  | .tuple ds => some (.tuple (cutD ds lo hi))
  | .str z => if z.length ≤ sizeLine then some (.str (cutS z lo hi)) else none
  | .dict [(.none, .list ds)] => some (.list (cutD ds lo hi))
  | _ => none
theorem RpT.eScr {K : Fr} {A : AS} {H : Hp} {v : V} {ds : List D} (r : RpT K A H v (.dict [(.none, .list ds)])) : ∃ a vs, v = .ref a ∧ SqL K H a vs ∧ RpAll K A H vs ds := by
  cases r with
  | of r =>
    cases r with
    | dct _ _ _ e => exact absurd (key_scr e) (by simp [isScr])
    | scr h r => exact ⟨_, _, rfl, h.sq, r⟩
theorem dCut_dict {lo hi : Option Int} {kvs : List (D × D)} {z : D} (h : dCut lo hi (.dict kvs) = some z) : ∃ ds, kvs = [(.none, .list ds)] ∧ z = .list (cutD ds lo hi) := by
  match kvs, h with
  | [(.none, .list ds)], h => exact ⟨ds, rfl, by simpa [dCut] using h.symm⟩
theorem ev_cut (F : Fit X c) {a : Expr} {lo hi : Option Expr} {la : Lv} {qa ql qh : Bool} {ma : M D} {ml mh : M (Option Int)} {p2 : Pos} (ha : EvOk X c a la qa ma) (hl : PoOk X c lo ql ml) (hh : PoOk X c hi qh mh) (hs : (la.p || (ql && qh)) = true) (h1 : la.t = true) :
    EvOk X c (.Subscript a (.Slice lo hi none p2) pos) .new (qa && (ql && qh)) (ma.bind fun d => ml.bind fun l => mh.bind fun h => M.lift (dCut l h d)) := by
  obtain ⟨ta, p1, t1⟩ := ha
  obtain ⟨tl, pl, t2⟩ := hl
  obtain ⟨th, ph, t3⟩ := hh
  refine ⟨_, pe_slice (SlR.or (SlR.or sl_list (sl_tupA)) sl_str) p1 pl ph, ?_⟩
  refine Tr.bind (t2 := fun x σ H1 Q => tl σ H1 fun l H2 => th σ H2 fun u H3 => ((rSlL X.K x l u H3 Q ∨ rSlA X.K x l u H3 Q) ∨ rSlS x l u H3 Q)) ant_rpl t1 (fun d x O U σ H H1 ρ Q st k s rx h => ?_) rfl
  have h' : Res c (RpL c.K c.P .new) O U σ H1 (ql && qh) ((ml ρ).bind fun l => mh.bind fun h => M.lift (dCut l h d)) Q := h
  refine t2 O U σ H1 ρ _ st ?_
  cases el : ml ρ with
  | exc x ρ1 => rw [el] at h'; exact h'
  | bad => rw [el] at h'; exact h'.elim
  | ok l ρ1 =>
    rw [el] at h'
    intro l' H2 st2 k2 s2 e2
    have e2 : l' = l := e2
    subst e2
    have h3 : Res c (RpL c.K c.P .new) O U σ H1 (ql && qh) ((mh ρ1).bind fun h => M.lift (dCut l' h d)) Q := h'
    refine t3 O U σ H2 ρ1 _ st2 ?_
    cases eh : mh ρ1 with
    | exc x ρ2 =>
      rw [eh] at h3
      exact fun cls dd H4 st4 k4 e => h3 cls dd H4 st4 (k2.trans k4) e
    | bad => rw [eh] at h3; exact h3.elim
    | ok u ρ2 =>
      rw [eh] at h3
      intro u' H3 st3 k3 s3 e3
      have e3 : u' = u := e3
      subst e3
      have h4 : Res c (RpL c.K c.P .new) O U σ H1 (ql && qh) (M.lift (dCut l' u' d) ρ2) Q := h3
      unfold M.lift at h4
      have rt : RpT c.K (Av O U) H3 x d := rx.stayT h1 hs (k2.trans k3) fun z => (s2 (Bool.and_eq_true_iff.mp z).1).trans (s3 (Bool.and_eq_true_iff.mp z).2)
      have fin : ∀ z, dCut l' u' d = some z → ∀ v H4, Sto c.K c.S O U σ H4 ρ2 → Same H3 H4 → RpL c.K c.P .new O U H3 H4 (StT c U σ H4 ρ2) v z → Q v H4 := fun z ez v H4 st4 s4 rv => by
        rw [ez] at h4
        have kk := (k2.trans k3).trans (Keep.of_same s4)
        exact h4 v H4 st4 kk (fun z => ((s2 (Bool.and_eq_true_iff.mp z).1).trans (s3 (Bool.and_eq_true_iff.mp z).2)).trans s4) (ant_rpl O U H1 H3 H4 _ v _ (k2.trans k3) st3.domU rv)
      rw [F.K]
      cases d with
      | list ds =>
        obtain ⟨p, vs, rfl, hp, r⟩ := rt.eLst
        refine .inl (.inl ⟨p, vs, rfl, SqL.of hp, fun q hq => ?_⟩)
        have sm := same_new (o := .lst (cutV vs l' u')) hq
        exact fin _ rfl _ _ (st3.same sm) sm (rpl_lay st3 hq (r.cut l' u'))
      | tuple ds =>
        obtain ⟨p, vs, rfl, hp, r⟩ := rt.eTup
        refine .inl (.inr ⟨p, vs, rfl, hp, fun w => ?_, fun w q hq => ?_⟩)
        · rw [r.length] at w
          have e := cutD_whole w
          refine fin _ rfl _ H3 st3 (Same.refl H3) (rpl_scal ?_ nofun)
          rw [e]
          exact rt.tup
        · have sm := same_new (o := .tup (cutV vs l' u')) hq
          exact fin _ rfl _ _ (st3.same sm) sm (rpl_scal (.tup (.inl upd_same) ((Keep.of_same sm).rpAll (r.cut l' u'))) nofun)
      | str z =>
        by_cases hz : z.length ≤ sizeLine
        · exact .inr ⟨z, rt.eStr, hz, fin _ (if_pos hz) _ H3 st3 (Same.refl H3) (rpl_scal (.str _) nofun)⟩
        · have : dCut l' u' (.str z) = none := if_neg hz
          rw [this] at h4
          exact h4.elim
      | none => exact h4.elim
      | bool _ => exact h4.elim
      | int _ => exact h4.elim
      | dict kvs =>
        cases ec : dCut l' u' (.dict kvs) with
        | none => rw [ec] at h4; exact h4.elim
        | some z =>
          obtain ⟨ds, e1, e2⟩ := dCut_dict ec
          subst e1
          obtain ⟨p, vs, rfl, hp, r⟩ := rt.eScr
          refine .inl (.inl ⟨p, vs, rfl, hp, fun q hq => ?_⟩)
          have sm := same_new (o := .lst (cutV vs l' u')) hq
          exact fin _ (by rw [ec, e2]) _ _ (st3.same sm) sm (rpl_lay st3 hq (r.cut l' u'))

/-! ### several expressions -/
def Lv.still (l : Lv) : Lv := ⟨l.t, l.r, l.p, false⟩
inductive AllL (K : Fr) (P : Nat → Bool) (O : AS) (U : Nat → Option Addr) (H : Hp) : List Lv → List V → List D → Prop
  | nil : AllL K P O U H [] [] []
  | cons {l : Lv} {ls : List Lv} {v : V} {vs : List V} {d : D} {ds : List D} (h : RpL K P l.still O U H H (fun _ => False) v d) (r : AllL K P O U H ls vs ds) : AllL K P O U H (l :: ls) (v :: vs) (d :: ds)
abbrev RelA (K : Fr) (P : Nat → Bool) (ls : List Lv) : Rel (List V) (List D) := fun O U _ H _ vs ds => AllL K P O U H ls vs ds
theorem ant_a {K : Fr} {P : Nat → Bool} {ls : List Lv} : Ant (RelA K P ls) := fun _ _ _ _ _ _ _ _ _ _ h => h
structure AOk (X : Cx) (c : Cn) (es : List Expr) (ls : List Lv) (q : Bool) (m : M (List D)) : Prop where
  ex : ∃ ta, PA X es ta ∧ Tr c (RelA c.K c.P ls) q ta m
theorem a_nil : AOk X c [] [] true (M.pure []) := ⟨_, pa_nil, fun O U σ H ρ Q st h => h [] H st Keep.refl (fun _ => Same.refl H) .nil⟩
theorem RpL.toStill {K : Fr} {P : Nat → Bool} {l : Lv} {q : Bool} {O : AS} {U : Nat → Option Addr} {H0 H H' H1 : Hp} {T T' : AS → Prop} {v : V} {d : D} (r : RpL K P l O U H0 H T v d) (h : (l.p || q) = true) (k : Keep U H H') (s : q = true → Same H H') :
    RpL K P l.still O U H1 H' T' v d := by
  rcases Bool.or_eq_true_iff.mp h with h | h
  · have g := k.rp (r.p h)
    exact ⟨g.low, fun _ => .of g, fun _ => g.imp fun b z => .inl (av_up z), fun _ => g, nofun⟩
  · have s := s h
    exact ⟨r.b.mono fun b o e t _ => s b o e t, fun z => (r.t z).same s, fun z => (r.r z).mono fun b o e t _ => s b o e t, fun z => (r.p z).mono fun b o e t _ => s b o e t, nofun⟩
def notStar : Expr → Bool
  | .Starred _ _ => false
  | _ => true
theorem star_cons {e : Expr} {es : List Expr} {env : Env} (h : notStar e = true) : starEach (e :: es) env = (false, eval e env) :: starEach es env := by
  cases e <;> first | rfl | (cases h; done)
theorem a_cons {e : Expr} {es : List Expr} {l : Lv} {ls : List Lv} {qe qs : Bool} {me : M D} {ms : M (List D)} (he : EvOk X c e l qe me) (hs : AOk X c es ls qs ms) (hp : (l.p || qs) = true) (hn : notStar e = true) :
    AOk X c (e :: es) (l :: ls) (qe && qs) (me.bind fun d => ms.bind fun ds => M.pure (d :: ds)) := by
  obtain ⟨te, p1, t1⟩ := he
  obtain ⟨ta, p2, t2⟩ := hs
  refine ⟨_, pa_cons p1 p2 (star_cons hn), ?_⟩
  refine Tr.bind (t2 := fun x σ H1 Q => ta σ H1 fun xs H2 => Q (x :: xs) H2) ant_a t1 (fun d x O U σ H H1 ρ Q st k s rx h => ?_) rfl
  have h' : Res c (RelA c.K c.P (l :: ls)) O U σ H1 qs ((ms ρ).bind fun ds => M.pure (d :: ds)) Q := h
  refine t2 O U σ H1 ρ _ st ?_
  cases eb : ms ρ with
  | exc x ρ1 => rw [eb] at h'; exact h'
  | bad => rw [eb] at h'; exact h'.elim
  | ok ds ρ1 =>
    rw [eb] at h'
    intro xs H2 st2 k2 s2 rs
    exact h' (x :: xs) H2 st2 k2 s2 (.cons (rx.toStill hp k2 s2) rs)
theorem AllL.pure {K : Fr} {P : Nat → Bool} {O : AS} {U : Nat → Option Addr} {H : Hp} : ∀ {ls : List Lv} {vs : List V} {ds : List D}, AllL K P O U H ls vs ds → ls.all (·.p) = true → RpAll K (Av O U) H vs ds
  | _, _, _, .nil, _ => .nil
  | _, _, _, .cons h r, e => by
    rw [List.all_cons, Bool.and_eq_true] at e
    exact .cons (h.p e.1) (AllL.pure r e.2)
theorem AllL.ret {K : Fr} {P : Nat → Bool} {O : AS} {U : Nat → Option Addr} {H : Hp} : ∀ {ls : List Lv} {vs : List V} {ds : List D}, AllL K P O U H ls vs ds → ls.all (·.r) = true → RpAll K (Av O (UP P U)) H vs ds
  | _, _, _, .nil, _ => .nil
  | _, _, _, .cons h r, e => by
    rw [List.all_cons, Bool.and_eq_true] at e
    exact .cons (h.r e.1) (AllL.ret r e.2)
theorem AllL.low {K : Fr} {P : Nat → Bool} {O : AS} {U : Nat → Option Addr} {H : Hp} : ∀ {ls : List Lv} {vs : List V} {ds : List D}, AllL K P O U H ls vs ds → RpAll K (fun _ => False) H vs ds
  | _, _, _, .nil => .nil
  | _, _, _, .cons h r => .cons h.b (AllL.low r)
inductive AllT (K : Fr) (A : AS) (H : Hp) : List V → List D → Prop
  | nil : AllT K A H [] []
  | cons {v : V} {vs : List V} {d : D} {ds : List D} (h : RpT K A H v d) (r : AllT K A H vs ds) : AllT K A H (v :: vs) (d :: ds)
theorem AllL.top {K : Fr} {P : Nat → Bool} {O : AS} {U : Nat → Option Addr} {H : Hp} : ∀ {ls : List Lv} {vs : List V} {ds : List D}, AllL K P O U H ls vs ds → ls.all (·.t) = true → AllT K (Av O U) H vs ds
  | _, _, _, .nil, _ => .nil
  | _, _, _, .cons h r, e => by
    rw [List.all_cons, Bool.and_eq_true] at e
    exact .cons (h.t e.1) (AllL.top r e.2)
def dTup (ds : List D) : Option D := if ds.length ≤ sizeLine then some (.tuple ds) else none
def dLst (ds : List D) : Option D := if ds.length ≤ sizeLine then some (.list ds) else none
theorem ev_tup {es : List Expr} {ls : List Lv} {q : Bool} {m : M (List D)} {k : Nat} (h : AOk X c es ls q m) : EvOk X c (.Tuple es k pos) ⟨ls.all (·.p), ls.all (·.r), ls.all (·.p), true⟩ q (m.bind fun ds => M.lift (dTup ds)) := by
  obtain ⟨ta, p, t⟩ := h
  refine ⟨_, pe_tup p, ?_⟩
  have := Tr.bind (q2 := true) (f := fun ds => M.lift (dTup ds)) (t2 := fun xs σ H1 Q => xs.length ≤ sizeLine ∧ ∀ p, H1 p = none → Q (.ref p) (upd H1 p (.tup xs))) (ant_rpl (K := c.K) (P := c.P) (l := ⟨ls.all (·.p), ls.all (·.r), ls.all (·.p), true⟩)) t (fun ds xs O U σ H H1 ρ Q st k s r h => by
    unfold M.lift dTup at h
    by_cases hz : ds.length ≤ sizeLine
    · rw [if_pos hz] at h
      refine ⟨by rw [r.low.length]; exact hz, fun p hp => ?_⟩
      have sm := same_new (o := .tup xs) hp
      have fr := fresh_av st hp
      refine h _ _ (st.same sm) (Keep.of_same sm) (fun _ => sm) ⟨.tup (.inl upd_same) (r.low.mono fun b o e _ _ => sm b o e), fun z => .of (.tup (.inl upd_same) ((Keep.of_same sm).rpAll (r.pure z))), fun z => .tup (.inl upd_same) ((r.ret z).mono fun b o e _ _ => sm b o e), fun z => .tup (.inl upd_same) ((Keep.of_same sm).rpAll (r.pure z)), fun _ ds e => by cases e⟩
    · rw [if_neg hz] at h; exact h.elim) rfl
  rw [Bool.and_true] at this
  exact this
theorem ev_lst {es : List Expr} {ls : List Lv} {q : Bool} {m : M (List D)} (h : AOk X c es ls q m) (hp : ls.all (·.p) = true) : EvOk X c (.List es pos) .new q (m.bind fun ds => M.lift (dLst ds)) := by
  obtain ⟨ta, p, t⟩ := h
  refine ⟨_, pe_lst p, ?_⟩
  have := Tr.bind (q2 := true) (f := fun ds => M.lift (dLst ds)) (t2 := fun xs σ H1 Q => xs.length ≤ sizeLine ∧ ∀ p, H1 p = none → Q (.ref p) (upd H1 p (.lst xs))) (ant_rpl (K := c.K) (P := c.P) (l := .new)) t (fun ds xs O U σ H H1 ρ Q st k s r h => by
    unfold M.lift dLst at h
    by_cases hz : ds.length ≤ sizeLine
    · rw [if_pos hz] at h
      refine ⟨by rw [r.low.length]; exact hz, fun p hq => ?_⟩
      have sm := same_new (o := .lst xs) hq
      exact h _ _ (st.same sm) (Keep.of_same sm) (fun _ => sm) ((rpl_lay st hq (r.pure hp)))
    · rw [if_neg hz] at h; exact h.elim) rfl
  rw [Bool.and_true] at this
  exact this
end
end Cr
end
section
set_option Elab.async false
set_option linter.all false
set_option maxRecDepth 100000
set_option maxHeartbeats 4000000
namespace Cr
open PySem PySem.Spec L2
set_option autoImplicit false
section
variable {X : Cx} {c : Cn} {pos : Pos}
/-! ### calls of what is built in -/
theorem noStars {es : List Expr} {env : Env} (h : es.all notStar = true) : (backTo pos (starEach es env)).any (·.1) = false := by
  induction es with
  | nil => rfl
  | cons e es ih =>
    rw [List.all_cons, Bool.and_eq_true] at h
    rw [star_cons h.1]
    show (false || (backTo pos (starEach es env)).any (·.1)) = false
    rw [ih h.2]; rfl
def TellsA (c : Cn) (r : List V → Hp → VK → Prop) (g : List D → Option D) (l : Lv) : Prop := ∀ O U σ H ρ xs ds z Q, Sto c.K c.S O U σ H ρ → AllT c.K (Av O U) H xs ds → g ds = some z →
  (∀ v H', Sto c.K c.S O U σ H' ρ → Same H H' → RpL c.K c.P l O U H H' (StT c U σ H' ρ) v z → Q v H') → r xs H Q
structure BltR (X : Cx) (c : Cn) (x : Str) (g : List D → Option D) (l : Lv) : Prop where
  ex : (∃ id r, bootBuiltins x = some (.builtin id) ∧ CallR X (.builtin id) r ∧ TellsA c r g l) ∨ (∃ T r, bootBuiltins x = some (.type T) ∧ CallR X (.type T) r ∧ TellsA c r g l)
theorem ev_blt {x : Str} {g : List D → Option D} {l : Lv} {e : Expr} {es : List Expr} {ls : List Lv} {q : Bool} {m : M (List D)} {p : Pos} (h : BltR X c x g l) (hg : Gl X x) (hm : X.mg x = none) (ha : AOk X c (e :: es) ls q m) (ht : ls.all (·.t) = true)
    (ns : (e :: es).all notStar = true) (hn : x ≠ "__name__") (hdb : (x == ("__debug__" : Str)) = false) : EvOk X c (.Call (.Name x p) (e :: es) [] pos) l q (m.bind fun ds => M.lift (g ds)) := by
  obtain ⟨ta, pa, t⟩ := ha
  have n2 := ns
  rw [List.all_cons, Bool.and_eq_true] at n2
  have fin : ∀ r, TellsA c r g l → Tr c (RpL c.K c.P l) q (tCB r ta) (m.bind fun ds => M.lift (g ds)) := fun r hr => by
    have := Tr.bind (q2 := true) (f := fun ds => M.lift (g ds)) (t2 := fun xs σ H1 Q => r xs H1 Q) (ant_rpl (K := c.K) (P := c.P) (l := l)) t (fun ds xs O U σ H H1 ρ Q st k s rx h => by
      unfold M.lift at h
      cases eg : g ds with
      | none => simp only [eg] at h; exact h.elim
      | some z =>
        simp only [eg] at h
        exact hr O U σ H1 ρ xs ds z Q st (rx.top ht) eg fun v H' st' s' rv => h v H' st' (Keep.of_same s') (fun _ => s') rv) rfl
    rw [Bool.and_true] at this
    exact this
  rcases h.ex with ⟨id, r, hv, hc, hr⟩ | ⟨T, r, hv, hc, hr⟩
  · exact ⟨_, pe_callB hc hg hm hv pa hn hdb (star_cons n2.1) (noStars n2.2), fin r hr⟩
  · exact ⟨_, pe_callTy hc hg hm hv pa hn hdb (star_cons n2.1) (noStars n2.2), fin r hr⟩
theorem AllT.one {K : Fr} {A : AS} {H : Hp} {xs : List V} {d : D} (h : AllT K A H xs [d]) : ∃ x, xs = [x] ∧ RpT K A H x d := by
  cases h with
  | cons h r => cases r; exact ⟨_, rfl, h⟩
theorem AllT.two {K : Fr} {A : AS} {H : Hp} {xs : List V} {d f : D} (h : AllT K A H xs [d, f]) : ∃ x y, xs = [x, y] ∧ RpT K A H x d ∧ RpT K A H y f := by
  cases h with
  | cons h r => cases r with
    | cons h' r => cases r; exact ⟨_, _, rfl, h, h'⟩
theorem k_sc {l : Lv} {O : AS} {U : Nat → Option Addr} {σ : L2.St} {H : Hp} {ρ : Ev} {v : V} {d : D} {Q : VK} (st : Sto c.K c.S O U σ H ρ) (r : Rp c.K (Av O U) H v d) (nl : ∀ ds, d ≠ .list ds)
    (k : ∀ v H', Sto c.K c.S O U σ H' ρ → Same H H' → RpL c.K c.P l O U H H' (StT c U σ H' ρ) v d → Q v H') : Q v H := k _ H st (Same.refl H) (rpl_scal r nl)
theorem k_lst {l : Lv} {O : AS} {U : Nat → Option Addr} {σ : L2.St} {H : Hp} {ρ : Ev} {vs : List V} {ds : List D} {Q : VK} {p : Addr} (st : Sto c.K c.S O U σ H ρ) (hp : H p = none) (r : RpAll c.K (Av O U) H vs ds)
    (k : ∀ v H', Sto c.K c.S O U σ H' ρ → Same H H' → RpL c.K c.P l O U H H' (StT c U σ H' ρ) v (.list ds) → Q v H') : Q (.ref p) (upd H p (.lst vs)) := by
  have sm := same_new (o := .lst vs) hp
  exact k _ _ (st.same sm) sm (rpl_lay st hp r)
theorem k_tup {l : Lv} {O : AS} {U : Nat → Option Addr} {σ : L2.St} {H : Hp} {ρ : Ev} {vs : List V} {ds : List D} {Q : VK} {p : Addr} (st : Sto c.K c.S O U σ H ρ) (hp : H p = none) (r : RpAll c.K (Av O U) H vs ds)
    (k : ∀ v H', Sto c.K c.S O U σ H' ρ → Same H H' → RpL c.K c.P l O U H H' (StT c U σ H' ρ) v (.tuple ds) → Q v H') : Q (.ref p) (upd H p (.tup vs)) := by
  have sm := same_new (o := .tup vs) hp
  exact k _ _ (st.same sm) sm (rpl_scal (.tup (.inl upd_same) ((Keep.of_same sm).rpAll r)) nofun)
/-! len -/
def dLen : List D → Option D
  | [.str z] => if z.length ≤ sizeLine then some (.int z.length) else none
  | [.list ds] => some (.int ds.length)
  | [.tuple ds] => some (.int ds.length)
  | _ => none
theorem b_len (F : Fit X c) : BltR X c "len" dLen .new := ⟨.inl ⟨_, _, boot_len, (F.K ▸ call_len : CallR X (.builtin "len") (fun xs H Q => ∃ x n, xs = [x] ∧ LenV c.K x H n ∧ Q (.int n) H)), fun O U σ H ρ xs ds z Q st r e k => by
  unfold dLen at e
  split at e
  · split at e
    · rename_i hz
      cases e
      obtain ⟨x, rfl, r1⟩ := r.one
      exact ⟨_, _, rfl, by rw [r1.eStr]; exact ⟨hz, rfl⟩, k_sc st (.int _) nofun k⟩
    · cases e
  · cases e
    obtain ⟨x, rfl, r1⟩ := r.one
    obtain ⟨a, vs, rfl, h, r2⟩ := r1.eLst
    exact ⟨_, _, rfl, .inl ⟨vs, SqL.of h, rfl⟩, by rw [r2.length]; exact k_sc st (.int _) nofun k⟩
  · cases e
    obtain ⟨x, rfl, r1⟩ := r.one
    obtain ⟨a, vs, rfl, h, r2⟩ := r1.eTup
    exact ⟨_, _, rfl, .inr ⟨vs, h, rfl⟩, by rw [r2.length]; exact k_sc st (.int _) nofun k⟩
  · cases e⟩⟩
/-! int, str, abs, ord -/
def dInt : List D → Option D
  | [.int i] => some (.int i)
  | [.bool b] => some (.int (if b then 1 else 0))
  | [.str z] => match PySem.intText? z with
    | some n => if z.length ≤ 640 then some (.int n) else none
    | none => none
  | _ => none
theorem b_int : BltR X c "int" dInt .new := ⟨.inr ⟨_, _, PyProof.Rows.boot_int, CallR.or call_int1 call_int_str, fun O U σ H ρ xs ds z Q st r e k => by
  unfold dInt at e
  split at e
  · cases e
    obtain ⟨x, rfl, r1⟩ := r.one
    exact .inl (.inl ⟨_, by rw [r1.eInt], k_sc st (.int _) nofun k⟩)
  · cases e
    obtain ⟨x, rfl, r1⟩ := r.one
    exact .inl (.inr ⟨_, by rw [r1.eBl], k_sc st (.int _) nofun k⟩)
  · split at e
    · rename_i n hn
      split at e
      · rename_i hz
        cases e
        obtain ⟨x, rfl, r1⟩ := r.one
        exact .inr ⟨_, n, by rw [r1.eStr], hn, hz, k_sc st (.int _) nofun k⟩
      · cases e
    · cases e
  · cases e⟩⟩
def dAbs : List D → Option D
  | [.int i] => some (.int (if i < 0 then -i else i))
  | _ => none
theorem b_abs : BltR X c "abs" dAbs .new := ⟨.inl ⟨_, _, by decide +kernel, call_abs, fun O U σ H ρ xs ds z Q st r e k => by
  unfold dAbs at e
  split at e
  · cases e
    obtain ⟨x, rfl, r1⟩ := r.one
    exact ⟨_, by rw [r1.eInt], k_sc st (.int _) nofun k⟩
  · cases e⟩⟩
def dOrd : List D → Option D
  | [.str z] => if z.length = 1 then some (.int (z.cps.getD 0 0 : Nat)) else none
  | _ => none
theorem b_ord : BltR X c "ord" dOrd .new := ⟨.inl ⟨_, _, by decide +kernel, call_ord, fun O U σ H ρ xs ds z Q st r e k => by
  unfold dOrd at e
  split at e
  · split at e
    · rename_i hz
      cases e
      obtain ⟨x, rfl, r1⟩ := r.one
      exact ⟨_, by rw [r1.eStr], hz, k_sc st (.int _) nofun k⟩
    · cases e
  · cases e⟩⟩
def dStr : List D → Option D
  | [.int i] => if i.natAbs.log2 < 1920 then some (.str (toString i)) else none
  | _ => none
theorem b_str : BltR X c "str" dStr .new := ⟨.inr ⟨_, _, by decide +kernel, call_str_int, fun O U σ H ρ xs ds z Q st r e k => by
  unfold dStr at e
  split at e
  · split at e
    · rename_i hz
      cases e
      obtain ⟨x, rfl, r1⟩ := r.one
      exact ⟨_, by rw [r1.eInt], hz, k_sc st (.str _) nofun k⟩
    · cases e
  · cases e⟩⟩
/-! tuple, list -/
def dTuple : List D → Option D
  | [.list ds] => some (.tuple ds)
  | [.tuple ds] => some (.tuple ds)
  | _ => none
theorem b_tuple (F : Fit X c) : BltR X c "tuple" dTuple .new := ⟨.inr ⟨_, _, by decide +kernel, (F.K ▸ call_tuple_of : CallR X (.type "tuple") (fun xs H Q => ∃ p ys, xs = [.ref p] ∧ ((SqL c.K H p ys ∧ ∀ l, H l = none → Q (.ref l) (upd H l (.tup ys))) ∨ (SqT c.K H p ys ∧ Q (.ref p) H)))), fun O U σ H ρ xs ds z Q st r e k => by
  unfold dTuple at e
  split at e
  · cases e
    obtain ⟨x, rfl, r1⟩ := r.one
    obtain ⟨a, vs, rfl, h, r2⟩ := r1.eLst
    exact ⟨a, vs, rfl, .inl ⟨SqL.of h, fun p hp => k_tup st hp r2 k⟩⟩
  · cases e
    obtain ⟨x, rfl, r1⟩ := r.one
    obtain ⟨a, vs, rfl, h, _⟩ := r1.eTup
    exact ⟨a, vs, rfl, .inr ⟨h, k_sc st r1.tup nofun k⟩⟩
  · cases e⟩⟩
def dList : List D → Option D
  | [.list ds] => some (.list ds)
  | [.tuple ds] => some (.list ds)
  | _ => none
theorem b_list (F : Fit X c) : BltR X c "list" dList .new := ⟨.inr ⟨_, _, by decide +kernel, (F.K ▸ call_list_of : CallR X (.type "list") (fun xs H Q => ∃ p ys, xs = [.ref p] ∧ (SqL c.K H p ys ∨ SqT c.K H p ys) ∧ ∀ l, H l = none → Q (.ref l) (upd H l (.lst ys)))), fun O U σ H ρ xs ds z Q st r e k => by
  unfold dList at e
  split at e
  · cases e
    obtain ⟨x, rfl, r1⟩ := r.one
    obtain ⟨a, vs, rfl, h, r2⟩ := r1.eLst
    exact ⟨a, vs, rfl, .inl (SqL.of h), fun p hp => k_lst st hp r2 k⟩
  · cases e
    obtain ⟨x, rfl, r1⟩ := r.one
    obtain ⟨a, vs, rfl, h, r2⟩ := r1.eTup
    exact ⟨a, vs, rfl, .inr h, fun p hp => k_lst st hp r2 k⟩
  · cases e⟩⟩
/-! all, any, sum, max, min of lists -/
def bools : List D → Option (List Bool)
  | [] => some []
  | .bool b :: r => (bools r).map (b :: ·)
  | _ => none
def intsD : List D → Option (List Int)
  | [] => some []
  | .int b :: r => (intsD r).map (b :: ·)
  | _ => none
theorem bools_eq : ∀ {ds : List D} {bs : List Bool}, bools ds = some bs → ds = bs.map .bool
  | [], bs, h => by cases h; rfl
  | .bool b :: r, bs, h => by
    simp only [bools, Option.map_eq_some_iff] at h
    obtain ⟨cs, h1, rfl⟩ := h
    rw [bools_eq h1]; rfl
theorem intsD_eq : ∀ {ds : List D} {bs : List Int}, intsD ds = some bs → ds = bs.map .int
  | [], bs, h => by cases h; rfl
  | .int b :: r, bs, h => by
    simp only [intsD, Option.map_eq_some_iff] at h
    obtain ⟨cs, h1, rfl⟩ := h
    rw [intsD_eq h1]; rfl
theorem RpAll.bls {K : Fr} {A : AS} {H : Hp} : ∀ {vs : List V} {bs : List Bool}, RpAll K A H vs (bs.map .bool) → vs = bs.map .bl
  | _, [], .nil => rfl
  | _, b :: r, .cons h t => by rw [h.eBl, RpAll.bls t]; rfl
theorem RpAll.ints {K : Fr} {A : AS} {H : Hp} : ∀ {vs : List V} {bs : List Int}, RpAll K A H vs (bs.map .int) → vs = bs.map .int
  | _, [], .nil => rfl
  | _, b :: r, .cons h t => by rw [h.eInt, RpAll.ints t]; rfl
theorem RpAll.ofInts {K : Fr} {A : AS} {H : Hp} : ∀ (bs : List Int), RpAll K A H (bs.map .int) (bs.map .int)
  | [] => .nil
  | b :: r => .cons (.int b) (RpAll.ofInts r)
theorem RpAll.strs {K : Fr} {A : AS} {H : Hp} : ∀ {vs : List V} {bs : List Str}, RpAll K A H vs (bs.map .str) → vs = bs.map .str
  | _, [], .nil => rfl
  | _, b :: r, .cons h t => by rw [h.eStr, RpAll.strs t]; rfl
theorem RpAll.ofStrs {K : Fr} {A : AS} {H : Hp} : ∀ (bs : List Str), RpAll K A H (bs.map .str) (bs.map .str)
  | [] => .nil
  | b :: r => .cons (.str b) (RpAll.ofStrs r)
def dAll : List D → Option D
  | [.list ds] => (bools ds).map fun bs => .bool (bs.all id)
  | _ => none
def dAny : List D → Option D
  | [.list ds] => (bools ds).map fun bs => .bool (bs.any id)
  | _ => none
def dSum : List D → Option D
  | [.list ds] => (intsD ds).map fun bs => .int bs.sum
  | _ => none
theorem b_all (F : Fit X c) (hc : X.calm = true) : BltR X c "all" dAll .new := ⟨.inl ⟨_, _, by decide +kernel, (F.K ▸ cr_all hc : CallR X (.builtin "all") (rAll c.K)), fun O U σ H ρ xs ds z Q st r e k => by
  unfold dAll at e
  split at e
  · obtain ⟨bs, h1, rfl⟩ := Option.map_eq_some_iff.mp e
    obtain ⟨x, rfl, r1⟩ := r.one
    obtain ⟨a, vs, rfl, h, r2⟩ := r1.eLst
    rw [bools_eq h1] at r2
    rw [r2.bls] at h
    exact ⟨a, bs, rfl, SqL.of h, k_sc st (.bl _) nofun k⟩
  · cases e⟩⟩
theorem b_any (F : Fit X c) (hc : X.calm = true) : BltR X c "any" dAny .new := ⟨.inl ⟨_, _, by decide +kernel, (F.K ▸ cr_any hc : CallR X (.builtin "any") (rAny c.K)), fun O U σ H ρ xs ds z Q st r e k => by
  unfold dAny at e
  split at e
  · obtain ⟨bs, h1, rfl⟩ := Option.map_eq_some_iff.mp e
    obtain ⟨x, rfl, r1⟩ := r.one
    obtain ⟨a, vs, rfl, h, r2⟩ := r1.eLst
    rw [bools_eq h1] at r2
    rw [r2.bls] at h
    exact ⟨a, bs, rfl, SqL.of h, k_sc st (.bl _) nofun k⟩
  · cases e⟩⟩
theorem b_sum (F : Fit X c) (hc : X.calm = true) : BltR X c "sum" dSum .new := ⟨.inl ⟨_, _, by decide +kernel, (F.K ▸ cr_sum hc : CallR X (.builtin "sum") (rSum c.K)), fun O U σ H ρ xs ds z Q st r e k => by
  unfold dSum at e
  split at e
  · obtain ⟨bs, h1, rfl⟩ := Option.map_eq_some_iff.mp e
    obtain ⟨x, rfl, r1⟩ := r.one
    obtain ⟨a, vs, rfl, h, r2⟩ := r1.eLst
    rw [intsD_eq h1] at r2
    rw [r2.ints] at h
    exact ⟨a, bs, rfl, SqL.of h, k_sc st (.int _) nofun k⟩
  · cases e⟩⟩
def lMax : List Int → Int
  | [] => 0
  | [x] => x
  | x :: r => let m := lMax r; if x < m then m else x
def lMin : List Int → Int
  | [] => 0
  | [x] => x
  | x :: r => let m := lMin r; if m < x then m else x
theorem lMax_mem : ∀ {l : List Int}, l ≠ [] → lMax l ∈ l ∧ ∀ y ∈ l, y ≤ lMax l
  | [], h => absurd rfl h
  | [x], _ => ⟨by simp [lMax], by simp [lMax]⟩
  | x :: z :: r, _ => by
    obtain ⟨h1, h2⟩ := lMax_mem (l := z :: r) (by simp)
    have e : lMax (x :: z :: r) = if x < lMax (z :: r) then lMax (z :: r) else x := rfl
    rw [e]
    split
    · refine ⟨List.mem_cons_of_mem _ h1, fun y hy => ?_⟩
      rcases List.mem_cons.mp hy with rfl | hy
      · omega
      · exact h2 y hy
    · refine ⟨List.mem_cons_self, fun y hy => ?_⟩
      rcases List.mem_cons.mp hy with rfl | hy
      · omega
      · have := h2 y hy; omega
theorem lMin_mem : ∀ {l : List Int}, l ≠ [] → lMin l ∈ l ∧ ∀ y ∈ l, lMin l ≤ y
  | [], h => absurd rfl h
  | [x], _ => ⟨by simp [lMin], by simp [lMin]⟩
  | x :: z :: r, _ => by
    obtain ⟨h1, h2⟩ := lMin_mem (l := z :: r) (by simp)
    have e : lMin (x :: z :: r) = if lMin (z :: r) < x then lMin (z :: r) else x := rfl
    rw [e]
    split
    · refine ⟨List.mem_cons_of_mem _ h1, fun y hy => ?_⟩
      rcases List.mem_cons.mp hy with rfl | hy
      · omega
      · exact h2 y hy
    · refine ⟨List.mem_cons_self, fun y hy => ?_⟩
      rcases List.mem_cons.mp hy with rfl | hy
      · omega
      · have := h2 y hy; omega
def dMax : List D → Option D
  | [.list ds] => match intsD ds with
    | some (n :: ns) => some (.int (lMax (n :: ns)))
    | _ => none
  | [.int i, .int j] => some (.int (if j > i then j else i))
  | _ => none
def dMin : List D → Option D
  | [.list ds] => match intsD ds with
    | some (n :: ns) => some (.int (lMin (n :: ns)))
    | _ => none
  | [.int i, .int j] => some (.int (if j < i then j else i))
  | _ => none
theorem b_max (F : Fit X c) (hc : X.calm = true) : BltR X c "max" dMax .new := ⟨.inl ⟨_, _, by decide +kernel, CallR.or (F.K ▸ cr_max hc : CallR X (.builtin "max") (rMax c.K)) (call_max2 hc), fun O U σ H ρ xs ds z Q st r e k => by
  unfold dMax at e
  split at e
  · split at e
    · rename_i n ns h1
      cases e
      obtain ⟨x, rfl, r1⟩ := r.one
      obtain ⟨a, vs, rfl, h, r2⟩ := r1.eLst
      rw [intsD_eq h1] at r2
      rw [r2.ints] at h
      refine .inl ⟨a, n :: ns, rfl, SqL.of h, by simp, fun m hm hy => ?_⟩
      obtain ⟨g1, g2⟩ := lMax_mem (l := n :: ns) (by simp)
      have : m = lMax (n :: ns) := Int.le_antisymm (g2 m hm) (hy _ g1)
      subst this
      exact k_sc st (.int _) nofun k
    · cases e
  · cases e
    obtain ⟨x, y, rfl, r1, r2⟩ := r.two
    exact .inr ⟨_, _, by rw [r1.eInt, r2.eInt], k_sc st (.int _) nofun k⟩
  · cases e⟩⟩
theorem b_min (F : Fit X c) (hc : X.calm = true) : BltR X c "min" dMin .new := ⟨.inl ⟨_, _, by decide +kernel, CallR.or (F.K ▸ cr_min hc : CallR X (.builtin "min") (rMin c.K)) (call_min2 hc), fun O U σ H ρ xs ds z Q st r e k => by
  unfold dMin at e
  split at e
  · split at e
    · rename_i n ns h1
      cases e
      obtain ⟨x, rfl, r1⟩ := r.one
      obtain ⟨a, vs, rfl, h, r2⟩ := r1.eLst
      rw [intsD_eq h1] at r2
      rw [r2.ints] at h
      refine .inl ⟨a, n :: ns, rfl, SqL.of h, by simp, fun m hm hy => ?_⟩
      obtain ⟨g1, g2⟩ := lMin_mem (l := n :: ns) (by simp)
      have : m = lMin (n :: ns) := Int.le_antisymm (hy _ g1) (g2 m hm)
      subst this
      exact k_sc st (.int _) nofun k
    · cases e
  · cases e
    obtain ⟨x, y, rfl, r1, r2⟩ := r.two
    exact .inr ⟨_, _, by rw [r1.eInt, r2.eInt], k_sc st (.int _) nofun k⟩
  · cases e⟩⟩
end
end Cr
end
section
set_option Elab.async false
set_option linter.all false
set_option maxRecDepth 100000
set_option maxHeartbeats 4000000
namespace Cr
open PySem PySem.Spec L2
set_option autoImplicit false
/-- from one owner's state to a later one -/
theorem rp_move {K : Fr} {O O2 : AS} {U U2 : Nat → Option Addr} {H1 H2 : Hp} (k : Keep U H1 H2) (ch : ∀ b, Av O2 U2 b → Av O U b ∨ ¬ Dn H1 b) {v : V} {d : D} (r : Rp K (Av O U) H1 v d) : Rp K (Av O2 U2) H2 v d := by
  have r1 : Rp K (fun b => Av O U b ∨ Av O2 U2 b) H1 v d := r.imp fun b z => by
    rcases z with z | z
    · exact .inl z
    · exact (ch b z).imp id id
  have r2 : Rp K (fun b => Av O U b ∨ Av O2 U2 b) H2 v d := r1.mono fun b o e t n => k b o e t (n.imp (fun n i z => n (.inl (.inr ⟨i, z⟩))) id)
  exact r2.imp fun b z => .inl (.inr z)
theorem rpAll_move {K : Fr} {O O2 : AS} {U U2 : Nat → Option Addr} {H1 H2 : Hp} (k : Keep U H1 H2) (ch : ∀ b, Av O2 U2 b → Av O U b ∨ ¬ Dn H1 b) {v : List V} {d : List D} (r : RpAll K (Av O U) H1 v d) : RpAll K (Av O2 U2) H2 v d := by
  have r1 : RpAll K (fun b => Av O U b ∨ Av O2 U2 b) H1 v d := r.imp fun b z => by
    rcases z with z | z
    · exact .inl z
    · exact (ch b z).imp id id
  have r2 : RpAll K (fun b => Av O U b ∨ Av O2 U2 b) H2 v d := r1.mono fun b o e t n => k b o e t (n.imp (fun n i z => n (.inl (.inr ⟨i, z⟩))) id)
  exact r2.imp fun b z => .inl (.inr z)
section
variable {X : Cx} {c : Cn} {pos : Pos}
/-! ### isinstance with a built-in class -/
def tyN : D → String
  | .none => "NoneType"
  | .bool _ => "bool"
  | .int _ => "int"
  | .str _ => "str"
  | .list _ => "list"
  | .tuple _ => "tuple"
  | .dict kvs => bif isScr kvs then "list" else "dict"
def isTy (T : String) : D → Bool
  | .none => false
  | .bool _ => T == "bool" || T == "int"
  | .int _ => T == "int"
  | .str _ => T == "str"
  | .list _ => T == "list"
  | .tuple _ => T == "tuple"
  | .dict kvs => bif isScr kvs then T == "list" else T == "dict"
def tyNames : List String := ["int", "bool", "str", "list", "tuple", "dict"]
theorem kit_isTy {T : String} (h : T ∈ tyNames) (d : D) : kitB (tyN d) T = some (isTy T d) := by
  have h : T = "int" ∨ T = "bool" ∨ T = "str" ∨ T = "list" ∨ T = "tuple" ∨ T = "dict" := by simpa [tyNames] using h
  rcases h with rfl | rfl | rfl | rfl | rfl | rfl <;> cases d <;> simp only [tyN, isTy] <;> first | decide +kernel | (rename_i kvs; cases isScr kvs <;> decide +kernel)
theorem tyx_of {K : Fr} {A : AS} {H : Hp} {v : V} {d : D} (r : Rp K A H v d) : TyX K H v (.type (tyN d)) := by
  cases r with
  | non => exact .base .non
  | bl b => exact .base (.bl b)
  | int i => exact .base (.int i)
  | str x => exact .base (.str x)
  | lst h n r => exact .base (.lst h)
  | tup h r =>
    rcases h with h | ⟨o, its, n, h1, h2, _⟩
    · exact .base (.tup h)
    · exact .kTuple h1 h2
  | dct h n r e => rw [tyN, key_scr e]; exact .base (.dK h)
  | scr h r =>
    rcases h with h | ⟨o, h⟩ | ⟨o, its, n, h1, h2, _⟩
    · exact .base (.lst h.1)
    · exact .base (.frz h)
    · exact .kList h1 h2
theorem ev_isi (F : Fit X c) {e : Expr} {l : Lv} {q : Bool} {m : M D} {x t : Str} {T : String} {p p2 : Pos} (he : EvOk X c e l q m) (hx : x = "isinstance") (hg : Gl X x) (hm : X.mg x = none) (gT : Gl X t) (mT : X.mg t = none) (vT : bootBuiltins t = some (.type T)) (hT : T ∈ tyNames)
    (hn : t ≠ "__name__") (hd : (t == ("__debug__" : Str)) = false) (ns : notStar e = true) :
    EvOk X c (.Call (.Name x p) [e, .Name t p2] [] pos) .new q (m.bind fun d => M.pure (.bool (isTy T d))) := by
  subst hx
  obtain ⟨te, p1, t1⟩ := he
  refine ⟨_, pe_callB (F.K ▸ call_isi : CallR X (.builtin "isinstance") (rIsi c.K)) hg hm (by decide +kernel) (pa_cons p1 (pa_cons (pe_bltn (v := .ty T) gT mT vT rfl hn hd) pa_nil) (star_cons ns)) (by decide) (by decide) (star_cons ns) (noStars (es := [.Name t p2]) rfl), ?_⟩
  have := Tr.bind (q2 := true) (f := fun d => M.pure (.bool (isTy T d))) (t2 := fun x σ H1 Q => rIsi c.K [x, .ty T] H1 Q) (ant_rpl (K := c.K) (P := c.P) (l := .new)) t1 (fun d x O U σ H H1 ρ Q st k s rx h => by
    exact ⟨x, .ty T, .type (tyN d), .type T, isTy T d, rfl, .ty T, tyx_of rx.b, kit_ty (kit_isTy hT d), h _ H1 st Keep.refl (fun _ => Same.refl H1) (rpl_scal (.bl _) nofun)⟩) rfl
  rw [Bool.and_true] at this
  exact this
/-! ### what a def is worth -/
/-- what is held, behind -/
def Cont (K : Fr) (O : AS) (U : Nat → Option Addr) (H : Hp) (ρ : Ev) : Prop := ∀ i a, U i = some a → ∃ es ws, ρ[i]? = some (some (.list es)) ∧ H a = some (.lst ws) ∧ RpAll K (Av O U) H ws es
def spOf (K : Fr) (mg : Str → Option Value) (io : Nat → Bool) (fr : Bool) (F : List D → Oc D) : Sp := fun vs H Q E => ∃ (O : AS) (U : Nat → Option Addr) (ds : List D), Sto K io O U (vs.map some) H (ds.map some) ∧
  match F ds with
  | .ok d ρ' => ∀ v H', Keep U H H' → LamX.Tabs (TK K) H' → Cont K O U H' ρ' → Rp K (Av O U) H' v d → (fr = true → ∀ es, d = .list es → ∃ a ws, v = .ref a ∧ ¬ Dn H a ∧ H' a = some (.lst ws) ∧ RpAll K (fun b => Av O U b ∨ b = a) H' ws es ∧ Cont K (fun b => O b ∨ b = a) U H' ρ') → Q v H'
  | .exc x ρ' => ∀ cls dd H', Keep U H H' → LamX.Tabs (TK K) H' → Cont K O U H' ρ' → ExK K mg O U H' x cls dd → E cls dd H'
  | .bad => False
theorem Sto.cont {K : Fr} {S : Nat → Bool} {O : AS} {U : Nat → Option Addr} {σ : L2.St} {H : Hp} {ρ : Ev} (st : Sto K S O U σ H ρ) (live : ∀ i a, U i = some a → ∃ d, ρ[i]? = some (some d)) : Cont K O U H ρ := fun i a h => by
  obtain ⟨d, e⟩ := live i a h
  obtain ⟨a', ds, vs, u, _, e2, e3, r⟩ := st.own i d e (st.uS i a h)
  rw [h] at u; cases u
  subst e2
  exact ⟨ds, vs, e, e3, r⟩
/-! arguments: by value, or a list that the def may change -/
inductive Ad where
  | val (l : Lv)
  | own (j : Nat)
def Ad.slot : Ad → Option Nat
  | .val _ => none
  | .own j => some j
inductive AllA (K : Fr) (P : Nat → Bool) (O : AS) (U : Nat → Option Addr) (H : Hp) : List Ad → List V → List D → Prop
  | nil : AllA K P O U H [] [] []
  | val {l : Lv} {as : List Ad} {v : V} {vs : List V} {d : D} {ds : List D} (h : RpL K P l.still O U H H (fun _ => False) v d) (r : AllA K P O U H as vs ds) : AllA K P O U H (.val l :: as) (v :: vs) (d :: ds)
  | own {j : Nat} {as : List Ad} {a : Addr} {vs : List V} {d : D} {ds : List D} (h : U j = some a) (r : AllA K P O U H as vs ds) : AllA K P O U H (.own j :: as) (.ref a :: vs) (d :: ds)
abbrev RelC (K : Fr) (P : Nat → Bool) (as : List Ad) : Rel (List V) (List D) := fun O U _ H _ vs ds => AllA K P O U H as vs ds
theorem ant_c {K : Fr} {P : Nat → Bool} {as : List Ad} : Ant (RelC K P as) := fun _ _ _ _ _ _ _ _ _ _ h => h
structure AcOk (X : Cx) (c : Cn) (es : List Expr) (as : List Ad) (q : Bool) (m : M (List D)) : Prop where
  ex : ∃ ta, PA X es ta ∧ Tr c (RelC c.K c.P as) q ta m
theorem ac_nil : AcOk X c [] [] true (M.pure []) := ⟨_, pa_nil, fun O U σ H ρ Q st h => h [] H st Keep.refl (fun _ => Same.refl H) .nil⟩
theorem ac_val {e : Expr} {es : List Expr} {l : Lv} {as : List Ad} {qe qs : Bool} {me : M D} {ms : M (List D)} (he : EvOk X c e l qe me) (hs : AcOk X c es as qs ms) (hp : (l.p || qs) = true) (hn : notStar e = true) :
    AcOk X c (e :: es) (.val l :: as) (qe && qs) (me.bind fun d => ms.bind fun ds => M.pure (d :: ds)) := by
  obtain ⟨te, p1, t1⟩ := he
  obtain ⟨ta, p2, t2⟩ := hs
  refine ⟨_, pa_cons p1 p2 (star_cons hn), ?_⟩
  refine Tr.bind (t2 := fun x σ H1 Q => ta σ H1 fun xs H2 => Q (x :: xs) H2) ant_c t1 (fun d x O U σ H H1 ρ Q st k s rx h => ?_) rfl
  have h' : Res c (RelC c.K c.P (.val l :: as)) O U σ H1 qs ((ms ρ).bind fun ds => M.pure (d :: ds)) Q := h
  refine t2 O U σ H1 ρ _ st ?_
  cases eb : ms ρ with
  | exc x ρ1 => rw [eb] at h'; exact h'
  | bad => rw [eb] at h'; exact h'.elim
  | ok ds ρ1 =>
    rw [eb] at h'
    intro xs H2 st2 k2 s2 rs
    exact h' (x :: xs) H2 st2 k2 s2 (.val (rx.toStill hp k2 s2) rs)
theorem ac_own {i : Nat} {x : Str} {p : Pos} {es : List Expr} {as : List Ad} {qs : Bool} {ms : M (List D)} (hN : X.N[i]? = some x) (hv : Vis X.env.scope x) (hd : (x == ("__debug__" : Str)) = false) (hcd : (x == ("__classdict__" : Str)) = false) (hS : c.S i = true)
    (hs : AcOk X c es as qs ms) : AcOk X c (.Name x p :: es) (.own i :: as) qs ((M.get i).bind fun d => ms.bind fun ds => M.pure (.none :: ds)) := by
  obtain ⟨ta, p2, t2⟩ := hs
  refine ⟨_, pa_cons (pe_var hN hv hd hcd) p2 (star_cons rfl), fun O U σ H ρ Q st h => ?_⟩
  have h : Res c (RelC c.K c.P (.own i :: as)) O U σ H qs ((M.get i ρ).bind fun d => ms.bind fun ds => M.pure (.none :: ds)) Q := h
  rcases get_cases i ρ with ⟨d, e, z⟩ | z
  · rw [z] at h
    obtain ⟨a, ds, vs, u, e1, e2, e3, r⟩ := st.own i d e hS
    refine ⟨.ref a, e1, ?_⟩
    have h' : Res c (RelC c.K c.P (.own i :: as)) O U σ H qs ((ms ρ).bind fun ds => M.pure (.none :: ds)) Q := h
    refine t2 O U σ H ρ _ st ?_
    cases eb : ms ρ with
    | exc x ρ1 => rw [eb] at h'; exact h'
    | bad => rw [eb] at h'; exact h'.elim
    | ok ds ρ1 =>
      rw [eb] at h'
      intro xs H2 st2 k2 s2 rs
      exact h' (.ref a :: xs) H2 st2 k2 s2 (.own u rs)
  · rw [z] at h; exact h.elim
/-- the held lists as they stand now -/
def fillA : List Ad → List D → Ev → Option (List D)
  | [], [], _ => some []
  | .val _ :: as, d :: ds, ρ => (fillA as ds ρ).map (d :: ·)
  | .own j :: as, _ :: ds, ρ => match ρ[j]? with
    | some (some d) => (fillA as ds ρ).map (d :: ·)
    | _ => none
  | _, _, _ => none
/-- what the def made of them -/
def backA : List Ad → Nat → Ev → Ev → Ev
  | [], _, _, ρ => ρ
  | .val _ :: as, i, ρ', ρ => backA as (i + 1) ρ' ρ
  | .own j :: as, i, ρ', ρ => backA as (i + 1) ρ' (match ρ'[i]? with
    | some (some d) => ρ.set j (some d)
    | _ => ρ)
def M.callA (as : List Ad) (F : List D → Oc D) (ds : List D) : M D := fun ρ => match fillA as ds ρ with
  | none => .bad
  | some es => match F es with
    | .ok d ρ' => .ok d (backA as 0 ρ' ρ)
    | .exc x ρ' => .exc x (backA as 0 ρ' ρ)
    | .bad => .bad
/-- which parameters are held: each by one slot -/
structure AdOk (as : List Ad) (io : Nat → Bool) : Prop where
  io : ∀ (i : Nat) (d : Ad), as[i]? = some d → io i = d.slot.isSome
  one : ∀ (i k j : Nat), as[i]? = some (.own j) → as[k]? = some (.own j) → i = k
  pur : ∀ (i : Nat) (l : Lv), as[i]? = some (.val l) → l.p = true
def adOk (as : List Ad) (io : Nat → Bool) : Bool :=
  ((List.range as.length).all fun i => match as[i]? with
    | some (.val l) => l.p && !io i
    | some (.own j) => io i && (List.range as.length).all fun k => match as[k]? with
      | some (.own j') => !(j == j') || i == k
      | _ => true
    | none => true)
theorem adOk_of {as : List Ad} {io : Nat → Bool} (h : adOk as io = true) : AdOk as io := by
  have h := List.all_eq_true.mp h
  have lt : ∀ {i : Nat} {d : Ad}, as[i]? = some d → i ∈ List.range as.length := fun e => List.mem_range.mpr (List.getElem?_eq_some_iff.mp e).1
  refine ⟨fun i d e => ?_, fun i k j e e' => ?_, fun i l e => ?_⟩
  · have q := h i (lt e)
    rw [e] at q
    cases d with
    | val l => simpa [Ad.slot] using (Bool.and_eq_true_iff.mp q).2
    | own j => simpa [Ad.slot] using (Bool.and_eq_true_iff.mp q).1
  · have q := h i (lt e)
    rw [e] at q
    have q := List.all_eq_true.mp (Bool.and_eq_true_iff.mp q).2 k (lt e')
    rw [e'] at q
    simpa using q
  · have q := h i (lt e)
    rw [e] at q
    exact (Bool.and_eq_true_iff.mp q).1
/-! ### a def's call -/
def Uc (as : List Ad) (U : Nat → Option Addr) : Nat → Option Addr := fun i => match as[i]? with
  | some (.own j) => U j
  | _ => none
def Oc' (as : List Ad) (O : AS) (U : Nat → Option Addr) : AS := fun b => Av O U b ∧ ∀ i, Uc as U i ≠ some b
theorem uc_some {as : List Ad} {U : Nat → Option Addr} {i : Nat} {a : Addr} (h : Uc as U i = some a) : ∃ j, as[i]? = some (.own j) ∧ U j = some a := by
  unfold Uc at h
  split at h
  · exact ⟨_, by assumption, h⟩
  · cases h
theorem av_c {as : List Ad} {O : AS} {U : Nat → Option Addr} {b : Addr} : Av (Oc' as O U) (Uc as U) b ↔ Av O U b := by
  constructor
  · rintro (h | ⟨i, h⟩)
    · exact h.1
    · obtain ⟨j, _, h⟩ := uc_some h
      exact .inr ⟨j, h⟩
  · intro h
    by_cases z : ∃ i, Uc as U i = some b
    · exact .inr z
    · exact .inl ⟨h, fun i w => z ⟨i, w⟩⟩
theorem AllA.length {K : Fr} {P : Nat → Bool} {O : AS} {U : Nat → Option Addr} {H : Hp} : ∀ {as : List Ad} {vs : List V} {ds : List D}, AllA K P O U H as vs ds → vs.length = as.length
  | _, _, _, .nil => rfl
  | _, _, _, .val _ r => by simp [AllA.length r]
  | _, _, _, .own _ r => by simp [AllA.length r]
theorem AllA.valAt {K : Fr} {P : Nat → Bool} {O : AS} {U : Nat → Option Addr} {H : Hp} {ρ : Ev} : ∀ {as : List Ad} {vs : List V} {ds es : List D} {i : Nat} {l : Lv} {d : D}, AllA K P O U H as vs ds → fillA as ds ρ = some es → as[i]? = some (.val l) → es[i]? = some d → ∃ v, vs[i]? = some v ∧ RpL K P l.still O U H H (fun _ => False) v d
  | _, _, _, _, 0, l, d, .val h r, f, e, e' => by
    cases e
    obtain ⟨es', f1, rfl⟩ := Option.map_eq_some_iff.mp f
    cases e'
    exact ⟨_, rfl, h⟩
  | _, _, _, _, 0, l, d, .own h r, f, e, e' => by cases e
  | _, _, _, _, i + 1, l, d, .val h r, f, e, e' => by
    obtain ⟨es', f1, rfl⟩ := Option.map_eq_some_iff.mp f
    obtain ⟨v, q, z⟩ := AllA.valAt (i := i) r f1 (by simpa using e) (by simpa using e')
    exact ⟨v, by simpa using q, z⟩
  | _, _, _, _, i + 1, l, d, .own h r, f, e, e' => by
    simp only [fillA] at f
    split at f
    · obtain ⟨es', f1, rfl⟩ := Option.map_eq_some_iff.mp f
      obtain ⟨v, q, z⟩ := AllA.valAt (i := i) r f1 (by simpa using e) (by simpa using e')
      exact ⟨v, by simpa using q, z⟩
    · cases f
theorem AllA.ownAt {K : Fr} {P : Nat → Bool} {O : AS} {U : Nat → Option Addr} {H : Hp} {ρ : Ev} : ∀ {as : List Ad} {vs : List V} {ds es : List D} {i : Nat} {j : Nat} {d : D}, AllA K P O U H as vs ds → fillA as ds ρ = some es → as[i]? = some (.own j) → es[i]? = some d → ∃ a, vs[i]? = some (.ref a) ∧ U j = some a ∧ ρ[j]? = some (some d)
  | _, _, _, _, 0, l, d, .val h r, f, e, e' => by cases e
  | _, _, _, _, 0, l, d, .own h r, f, e, e' => by
    cases e
    simp only [fillA] at f
    split at f
    · rename_i d' he
      obtain ⟨es', f1, rfl⟩ := Option.map_eq_some_iff.mp f
      cases e'
      exact ⟨_, rfl, h, he⟩
    · cases f
  | _, _, _, _, i + 1, l, d, .val h r, f, e, e' => by
    obtain ⟨es', f1, rfl⟩ := Option.map_eq_some_iff.mp f
    obtain ⟨v, q, z⟩ := AllA.ownAt (i := i) r f1 (by simpa using e) (by simpa using e')
    exact ⟨v, by simpa using q, z⟩
  | _, _, _, _, i + 1, l, d, .own h r, f, e, e' => by
    simp only [fillA] at f
    split at f
    · obtain ⟨es', f1, rfl⟩ := Option.map_eq_some_iff.mp f
      obtain ⟨v, q, z⟩ := AllA.ownAt (i := i) r f1 (by simpa using e) (by simpa using e')
      exact ⟨v, by simpa using q, z⟩
    · cases f
theorem fillA_length {ρ : Ev} : ∀ {as : List Ad} {ds es : List D}, fillA as ds ρ = some es → es.length = as.length
  | [], [], _, h => by cases h; rfl
  | [], _ :: _, _, h => by cases h
  | .val _ :: as, d :: ds, es, h => by
    obtain ⟨es', f1, rfl⟩ := Option.map_eq_some_iff.mp h
    simp [fillA_length f1]
  | .val _ :: as, [], es, h => by cases h
  | .own j :: as, d :: ds, es, h => by
    simp only [fillA] at h
    split at h
    · obtain ⟨es', f1, rfl⟩ := Option.map_eq_some_iff.mp h
      simp [fillA_length f1]
    · cases h
  | .own _ :: as, [], es, h => by cases h
/-- the callee's own state -/
theorem sto_call {O : AS} {U : Nat → Option Addr} {σ : L2.St} {H : Hp} {ρ : Ev} {as : List Ad} {io : Nat → Bool} {vs : List V} {ds es : List D} (st : Sto c.K c.S O U σ H ρ) (ok : AdOk as io) (r : AllA c.K c.P O U H as vs ds) (f : fillA as ds ρ = some es) :
    Sto c.K io (Oc' as O U) (Uc as U) (vs.map some) H (es.map some) := by
  have le : es.length = as.length := fillA_length f
  have lt : ∀ {i : Nat} {d : D}, es[i]? = some d → ∃ t, as[i]? = some t := fun {i d} e => by
    have := (List.getElem?_eq_some_iff.mp e).1
    rw [le] at this
    exact ⟨_, List.getElem?_eq_getElem this⟩
  have mp : ∀ {i : Nat} {d : D}, (es.map some)[i]? = some (some d) → es[i]? = some d := fun {i d} e => by
    rw [List.getElem?_map] at e
    cases q : es[i]? with
    | none => rw [q] at e; cases e
    | some d' => rw [q] at e; cases e; rfl
  have mv : ∀ {i : Nat} {v : V}, vs[i]? = some v → (vs.map some)[i]? = some (some v) := fun {i v} e => by rw [List.getElem?_map, e]; rfl
  refine ⟨by rw [List.length_map, List.length_map, r.length, le], fun i d e n => ?_, fun i d e n => ?_, fun i a u => ?_, fun i a u z => z.2 i u, fun i k a u u' => ?_, fun b z => ?_, fun i a u => ?_, st.tab⟩
  · obtain ⟨t, et⟩ := lt (mp e)
    have q := ok.io i t et
    rw [n] at q
    cases t with
    | own j => cases q
    | val l =>
      obtain ⟨v, ev, rv⟩ := r.valAt f et (mp e)
      exact ⟨v, mv ev, (rv.p (ok.pur i l et)).imp fun b z => .inl (av_c.mp z)⟩
  · obtain ⟨t, et⟩ := lt (mp e)
    have q := ok.io i t et
    rw [n] at q
    cases t with
    | val l => cases q
    | own j =>
      obtain ⟨a, ev, eu, ed⟩ := r.ownAt f et (mp e)
      have uc : Uc as U i = some a := by unfold Uc; rw [et]; exact eu
      obtain ⟨a', ds', vs', u', _, e2, e3, r3⟩ := st.own j d ed (st.uS j a eu)
      rw [eu] at u'; cases u'
      exact ⟨a, ds', vs', uc, mv ev, e2, e3, r3.imp fun b z => .inl (av_c.mp z)⟩
  · obtain ⟨j, et, _⟩ := uc_some u
    rw [ok.io i _ et]; rfl
  · obtain ⟨j, et, ej⟩ := uc_some u
    obtain ⟨j', et', ej'⟩ := uc_some u'
    have := st.inj j j' a ej ej'
    subst this
    exact ok.one i k j et et'
  · rcases z.1 with w | ⟨i, w⟩
    · exact st.domO b w
    · exact st.domU i b w
  · obtain ⟨j, et, ej⟩ := uc_some u
    exact st.domU j a ej
theorem backA_length (ρ' : Ev) : ∀ (as : List Ad) (i : Nat) (ρ : Ev), (backA as i ρ' ρ).length = ρ.length
  | [], _, _ => rfl
  | .val _ :: as, i, ρ => backA_length ρ' as (i + 1) ρ
  | .own j :: as, i, ρ => by
    show (backA as (i + 1) ρ' _).length = _
    rw [backA_length ρ' as]
    split
    · rw [List.length_set]
    · rfl
/-- a slot behind: as it was, or what the def left of the list -/
theorem backA_get (ρ' : Ev) : ∀ (as : List Ad) (i : Nat) (ρ : Ev) (k : Nat), (backA as i ρ' ρ)[k]? = ρ[k]? ∨ ∃ m d, as[m]? = some (.own k) ∧ ρ'[i + m]? = some (some d) ∧ (backA as i ρ' ρ)[k]? = (ρ.set k (some d))[k]?
  | [], _, _, _ => .inl rfl
  | .val _ :: as, i, ρ, k => by
    rcases backA_get ρ' as (i + 1) ρ k with h | ⟨m, d, h1, h2, h3⟩
    · exact .inl h
    · exact .inr ⟨m + 1, d, by simpa using h1, by rw [← h2]; congr 1; omega, h3⟩
  | .own j :: as, i, ρ, k => by
    show (backA as (i + 1) ρ' _)[k]? = _ ∨ ∃ m d, _ ∧ _ ∧ (backA as (i + 1) ρ' _)[k]? = _
    rcases backA_get ρ' as (i + 1) (match ρ'[i]? with | some (some d) => ρ.set j (some d) | _ => ρ) k with h | ⟨m, d, h1, h2, h3⟩
    · rw [h]
      split
      · rename_i d hd
        by_cases e : j = k
        · subst e
          exact .inr ⟨0, d, rfl, hd, rfl⟩
        · exact .inl (List.getElem?_set_ne e)
      · exact .inl rfl
    · refine .inr ⟨m + 1, d, by simpa using h1, by rw [← h2]; congr 1; omega, ?_⟩
      rw [h3]
      split
      · rename_i d' hd
        by_cases e : j = k
        · subst e
          rw [List.set_set]
        · simp only [List.getElem?_set, List.length_set, if_true]
      · rfl
/-- every held list that the def got is written back -/
theorem backA_own (ρ' : Ev) {as : List Ad} {io : Nat → Bool} (ok : AdOk as io) {m j : Nat} (h : as[m]? = some (.own j)) {d : D} (hd : ρ'[m]? = some (some d)) {ρ : Ev} (hj : j < ρ.length) : (backA as 0 ρ' ρ)[j]? = some (some d) := by
  have gen : ∀ (as : List Ad) (i m : Nat) (ρ : Ev), as[m]? = some (.own j) → ρ'[i + m]? = some (some d) → j < ρ.length → (∀ m', as[m']? = some (.own j) → m' = m) → (backA as i ρ' ρ)[j]? = some (some d) := by
    intro as
    induction as with
    | nil => intro i m ρ h; simp at h
    | cons a as ih =>
      intro i m ρ h hd hj one
      cases m with
      | zero =>
        have e : a = .own j := by simpa using h
        subst e
        show (backA as (i + 1) ρ' _)[j]? = _
        have hd : ρ'[i]? = some (some d) := hd
        rw [hd]
        rcases backA_get ρ' as (i + 1) (ρ.set j (some d)) j with q | ⟨m, d', h1, _⟩
        · rw [q, List.getElem?_set_self hj]
        · have := one (m + 1) (by simpa using h1); omega
      | succ m =>
        have h : as[m]? = some (.own j) := by simpa using h
        have one' : ∀ m', as[m']? = some (.own j) → m' = m := fun m' e => by have := one (m' + 1) (by simpa using e); omega
        cases a with
        | val l => exact ih (i + 1) m ρ h (by rw [← hd]; congr 1; omega) hj one'
        | own j' =>
          refine ih (i + 1) m _ h (by rw [← hd]; congr 1; omega) ?_ one'
          split
          · rw [List.length_set]; exact hj
          · exact hj
  exact gen as 0 m ρ h (by simpa using hd) hj fun m' e => ok.one m' m j e h
theorem sto_there {O O2 : AS} {U : Nat → Option Addr} {σ : L2.St} {H H' : Hp} {ρ ρ' : Ev} {as : List Ad} (st : Sto c.K c.S O U σ H ρ) (k : Keep (Uc as U) H H') (ct : Cont c.K O2 (Uc as U) H' ρ') : ∀ b, Dn H b → Dn H' b := fun b hb => by
    obtain ⟨o, e, n⟩ := hb
    by_cases z : ∃ i, Uc as U i = some b
    · obtain ⟨i, z⟩ := z
      obtain ⟨es, ws, _, q2, _⟩ := ct i b z
      exact .of q2
    · exact ⟨o, k b o e n (.inl fun i y => z ⟨i, y⟩), n⟩
theorem sto_back {O O2 : AS} {U : Nat → Option Addr} {σ : L2.St} {H H' : Hp} {ρ ρ' : Ev} {as : List Ad} {io : Nat → Bool} (st : Sto c.K c.S O U σ H ρ) (ok : AdOk as io) (k : Keep (Uc as U) H H') (hO : ∀ b, O2 b → O b ∨ ¬ Dn H b) (dO : ∀ b, O2 b → Dn H' b) (tb : LamX.Tabs (TK c.K) H') (ct : Cont c.K (Oc' as O2 U) (Uc as U) H' ρ')
    (live : ∀ (i j : Nat), as[i]? = some (Ad.own j) → ∃ d, ρ[j]? = some (some d)) (hown : ∀ (i j : Nat), as[i]? = some (Ad.own j) → c.S j = true) : Sto c.K c.S O2 U σ H' (backA as 0 ρ' ρ) := by
  have ch : ∀ b, Av O2 U b → Av O U b ∨ ¬ Dn H b := fun b z => by
    rcases z with z | z
    · exact (hO b z).imp .inl id
    · exact .inl (.inr z)
  have kU : Keep U H H' := fun b o e t n => k b o e t (n.imp (fun n i z => by obtain ⟨j, _, ej⟩ := uc_some z; exact n j ej) id)
  have lv : ∀ (i j : Nat), as[i]? = some (Ad.own j) → ∃ a, U j = some a ∧ Uc as U i = some a ∧ c.S j = true ∧ σ[j]? = some (some (.ref a)) := fun i j e => by
    obtain ⟨d, ed⟩ := live i j e
    cases hS : c.S j with
    | true =>
      obtain ⟨a, ds, vs, u, e1, _⟩ := st.own j d ed hS
      exact ⟨a, u, by unfold Uc; rw [e]; exact u, rfl, e1⟩
    | false => exact absurd (hown i j e) (by rw [hS]; simp)
  have there : ∀ b, Dn H b → Dn H' b := fun b hb => by
    obtain ⟨o, e, n⟩ := hb
    by_cases z : ∃ i, Uc as U i = some b
    · obtain ⟨i, z⟩ := z
      obtain ⟨es, ws, _, q2, _⟩ := ct i b z
      exact .of q2
    · exact ⟨o, k b o e n (.inl fun i y => z ⟨i, y⟩), n⟩
  refine ⟨by rw [backA_length]; exact st.len, fun i d e n => ?_, fun i d e n => ?_, st.uS, fun i a u z => ?_, st.inj, fun b z => ?_, fun i a u => ?_, tb⟩
  · rcases backA_get ρ' as 0 ρ i with q | ⟨m, d', h1, _⟩
    · rw [q] at e
      obtain ⟨v, e1, r⟩ := st.dat i d e n
      exact ⟨v, e1, rp_move kU ch r⟩
    · obtain ⟨a, u, _, hS, _⟩ := lv m i h1
      rw [hS] at n; cases n
  · have hi : i < ρ.length := by
      have := (List.getElem?_eq_some_iff.mp e).1
      rwa [backA_length] at this
    by_cases z : ∃ m : Nat, as[m]? = some (Ad.own i)
    · obtain ⟨m, hm⟩ := z
      obtain ⟨a, u, uc, _, e1⟩ := lv m i hm
      obtain ⟨es, ws, q1, q2, q3⟩ := ct m a uc
      have := backA_own ρ' ok hm q1 hi
      rw [this] at e
      cases e
      exact ⟨a, es, ws, u, e1, rfl, q2, q3.imp fun b z => .inl (av_c.mpr z)⟩
    · rcases backA_get ρ' as 0 ρ i with q | ⟨m, d', h1, _⟩
      · rw [q] at e
        obtain ⟨a, ds, vs, u, e1, e2, e3, r⟩ := st.own i d e n
        refine ⟨a, ds, vs, u, e1, e2, k _ _ e3 rfl (.inl fun m w => ?_), rpAll_move kU ch r⟩
        obtain ⟨j, h1, h2⟩ := uc_some w
        have := st.inj i j a u h2
        subst this
        exact z ⟨m, h1⟩
      · exact (z ⟨m, h1⟩).elim
  · rcases hO a z with z | z
    · exact st.out i a u z
    · exact z (st.domU i a u)
  · exact dO b z
  · exact there a (st.domU i a u)
/-- a call whose held arguments are all changed, or none -/
theorem ev_call {CX : CXT} {x : Str} {f : Addr} {fd : FuncData} {ps : List Str} {k : Nat} {io : Nat → Bool} {fr : Bool} {F : List D → Oc D} {e : Expr} {es : List Expr} {as : List Ad} {q : Bool} {m : M (List D)} {p : Pos} (Ft : Fit X c) (tk : Takes X c.W)
    (G : FnOk X.prog X.w X.K X.mg X.base (L2.CX X.prog X.w) k f fd ps (spOf c.K c.mg io fr F)) (hr : Room k X.A) (hg : Gl X x) (hm : X.mg x = some (.ref f)) (hk : PySem.W.keepIn X.K (.ref f) = true) (hb : Binds X.K fd ps [])
    (ha : AcOk X c (e :: es) as q m) (ok : AdOk as io) (hown : ∀ (i j : Nat), as[i]? = some (Ad.own j) → c.S j = true) (ns : (e :: es).all notStar = true) (hdb : (x == ("__debug__" : Str)) = false) :
    EvOk X c (.Call (.Name x p) (e :: es) [] pos) ⟨true, true, true, fr⟩ (q && as.all fun a => a.slot.isNone) (m.bind fun ds => M.callA as F ds) := by
  obtain ⟨ta, pa, t⟩ := ha
  have n2 := ns
  rw [List.all_cons, Bool.and_eq_true] at n2
  refine ⟨_, pe_callS G hr hg hm hk hb (E := WE c.W) (fun σ => passAt tk σ) pa hdb (star_cons n2.1) (noStars n2.2), ?_⟩
  refine Tr.bind (q1 := q) (t2 := fun xs σ H1 Q => spOf c.K c.mg io fr F xs H1 Q (WE c.W σ)) ant_rpl t (fun ds xs O U σ H H1 ρ Q st kk s r h => ?_) rfl
  unfold M.callA at h
  cases ef : fillA as ds ρ with
  | none => rw [ef] at h; exact h.elim
  | some es' =>
    simp only [ef] at h
    have sc := sto_call st ok r ef
    have live : ∀ (i j : Nat), as[i]? = some (Ad.own j) → ∃ d, ρ[j]? = some (some d) := fun i j e => by
      have lt := (List.getElem?_eq_some_iff.mp e).1
      have le := fillA_length ef
      have e' : es'[i]? = some es'[i] := List.getElem?_eq_getElem (by omega)
      obtain ⟨a, _, _, ed⟩ := r.ownAt ef e e'
      exact ⟨_, ed⟩
    refine ⟨Oc' as O U, Uc as U, es', sc, ?_⟩
    have kU : ∀ {H'}, Keep (Uc as U) H1 H' → Keep U H1 H' := fun k b o e t n => k b o e t (n.imp (fun n i z => by obtain ⟨j, _, ej⟩ := uc_some z; exact n j ej) id)
    cases eF : F es' with
    | bad => rw [eF] at h; exact h.elim
    | ok d ρ' =>
      simp only [eF] at h
      intro v H' k' tb ct rv fz
      have dO : ∀ b, O b → Dn H' b := fun b z => (sto_there st k' ct b (st.domO b z))
      refine h v H' (sto_back st ok k' (fun b z => .inl z) dO tb ct live hown) (kU k') (fun z => ?_) ?_
      · have z := List.all_eq_true.mp z
        intro b o e t
        refine k' b o e t (.inl fun i w => ?_)
        obtain ⟨j, e1, _⟩ := uc_some w
        have := z _ (List.mem_of_getElem? e1)
        cases this
      · have g : Rp c.K (Av O U) H' v d := rv.imp fun b z => .inl (av_c.mpr z)
        refine ⟨g.low, fun _ => .of g, fun _ => g.imp fun b z => .inl (av_up z), fun _ => g, fun hf ds' e' => ?_⟩
        obtain ⟨a, ws, e1, e2, e3, e4, e5⟩ := fz hf ds' e'
        refine ⟨a, ws, e1, e2, e3, e4.imp fun b z => .inl (z.imp av_c.mpr id), sto_back st ok k' (fun b z => z.imp id fun w => by rw [w]; exact e2) (fun b z => ?_) tb (fun i b u => ?_) live hown⟩
        · rcases z with z | z
          · exact dO b z
          · rw [z]; exact .of e3
        · obtain ⟨fs, xs, g1, g2, g3⟩ := e5 i b u
          refine ⟨fs, xs, g1, g2, g3.imp fun y z => .inl ?_⟩
          have z := av_c.mp z
          rcases z with (z | z) | z
          · rcases av_c (as := as).mpr (show Av O U y from .inl z) with w | w
            · exact .inl (.inl w)
            · exact .inr w
          · exact .inl (.inr z)
          · rcases av_c (as := as).mpr (show Av O U y from .inr z) with w | w
            · exact .inl (.inl w)
            · exact .inr w
    | exc y ρ' =>
      simp only [eF] at h
      intro cls dd H' k' tb ct ex
      refine h cls dd H' (sto_back st ok k' (fun b z => .inl z) (fun b z => sto_there st k' ct b (st.domO b z)) tb ct live hown) (kU k') ?_
      obtain ⟨C, h1, h2, h3⟩ := ex
      refine ⟨C, h1, h2, ?_⟩
      cases ey : y.fld with
      | none => rw [ey] at h3; exact h3
      | some fd' =>
        rw [ey] at h3
        obtain ⟨a, v, g1, g2, g3⟩ := h3
        exact ⟨a, v, g1, g2, g3.imp fun b z => .inl (av_c.mpr z)⟩
mutual
def noList : D → Bool
  | .list _ => false
  | .dict _ => false
  | .tuple ds => noLists ds
  | _ => true
def noLists : List D → Bool
  | [] => true
  | d :: ds => noList d && noLists ds
end
mutual
theorem Rp.noL {K : Fr} {A A' : AS} {H : Hp} : ∀ {v : V} {d : D}, Rp K A H v d → noList d = true → Rp K A' H v d
  | _, _, .non, _ => .non
  | _, _, .bl b, _ => .bl b
  | _, _, .int i, _ => .int i
  | _, _, .str x, _ => .str x
  | _, _, .lst _ _ _, e => by simp [noList] at e
  | _, _, .tup h r, e => .tup h (RpAll.noL r (by simpa only [noList] using e))
  | _, _, .dct _ _ _ _, e => by simp [noList] at e
  | _, _, .scr _ _, e => by simp [noList] at e
theorem RpAll.noL {K : Fr} {A A' : AS} {H : Hp} : ∀ {vs : List V} {ds : List D}, RpAll K A H vs ds → noLists ds = true → RpAll K A' H vs ds
  | _, _, .nil, _ => .nil
  | _, _, .cons h r, e => by
    have e' := Bool.and_eq_true_iff.mp (by simpa only [noLists] using e)
    exact .cons (Rp.noL h e'.1) (RpAll.noL r e'.2)
end
def M.chk (d : D) : M D := if noList d = true then M.pure d else M.bad
theorem AllA.lows {K : Fr} {P : Nat → Bool} {S : Nat → Bool} {O : AS} {U : Nat → Option Addr} {σ : L2.St} {H : Hp} {ρ : Ev} (st : Sto K S O U σ H ρ) (hown : ∀ j, (∃ a, U j = some a) → S j = true) : ∀ {as : List Ad} {vs : List V} {ds es : List D}, AllA K P O U H as vs ds → fillA as ds ρ = some es → RpAll K (fun _ => False) H vs es
  | _, _, _, es, .nil, f => by
    cases f; exact .nil
  | _, _, _, es, .val h r, f => by
    obtain ⟨es', f1, rfl⟩ := Option.map_eq_some_iff.mp f
    exact .cons h.b (AllA.lows st hown r f1)
  | .own j :: as, _, _, es, .own h r, f => by
    simp only [fillA] at f
    split at f
    · rename_i d e
      obtain ⟨es', f1, rfl⟩ := Option.map_eq_some_iff.mp f
      obtain ⟨a, ds, vs, u, _, e2, e3, q⟩ := st.own j d e (hown j ⟨_, h⟩)
      rw [h] at u; cases u
      subst e2
      exact .cons (.lst e3 (fun z => z) q.low) (AllA.lows st hown r f1)
    · cases f
def M.callR (as : List Ad) (F : List D → Oc D) (ds : List D) : M D := fun ρ => match fillA as ds ρ with
      | none => .bad
      | some es => match F es with
        | .ok d _ => .ok d ρ
        | .exc ⟨n, none⟩ _ => .exc ⟨n, none⟩ ρ
        | _ => .bad
/-- a call that changes nothing: arguments of any kind -/
theorem ev_callR {x : Str} {f : Addr} {fd : FuncData} {ps : List Str} {k : Nat} {fr : Bool} {F : List D → Oc D} {e : Expr} {es : List Expr} {as : List Ad} {q : Bool} {m : M (List D)} {p : Pos} (Ft : Fit X c) (tk : Takes X c.W)
    (G : FnOk X.prog X.w X.K X.mg X.base (L2.CX X.prog X.w) k f fd ps (spOf c.K c.mg (fun _ => false) fr F)) (hr : Room k X.A) (hg : Gl X x) (hm : X.mg x = some (.ref f)) (hk : PySem.W.keepIn X.K (.ref f) = true) (hb : Binds X.K fd ps [])
    (ha : AcOk X c (e :: es) as q m) (ns : (e :: es).all notStar = true) (hdb : (x == ("__debug__" : Str)) = false) :
    EvOk X c (.Call (.Name x p) (e :: es) [] pos) ⟨true, true, true, true⟩ q ((m.bind fun ds => M.callR as F ds).bind M.chk) := by
  obtain ⟨ta, pa, t⟩ := ha
  have n2 := ns
  rw [List.all_cons, Bool.and_eq_true] at n2
  refine ⟨_, pe_callS G hr hg hm hk hb (E := WE c.W) (fun σ => passAt tk σ) pa hdb (star_cons n2.1) (noStars n2.2), ?_⟩
  have as' : ∀ (m1 : M (List D)) (f1 : List D → M D), ((m1.bind f1).bind M.chk) = m1.bind fun ds => (f1 ds).bind M.chk := fun m1 f1 => by
    funext ρ
    show ((m1 ρ).bind f1).bind M.chk = (m1 ρ).bind fun ds => (f1 ds).bind M.chk
    cases m1 ρ <;> rfl
  rw [as']
  have := Tr.bind (q1 := q) (q2 := true) (t2 := fun xs σ H1 Q => spOf c.K c.mg (fun _ => false) fr F xs H1 Q (WE c.W σ)) (ant_rpl (K := c.K) (P := c.P) (l := ⟨true, true, true, true⟩)) t (f := fun ds => M.bind (M.callR as F ds) M.chk) (fun ds xs O U σ H H1 ρ Q st kk s r h => by
    have h : Res c (RpL c.K c.P ⟨true, true, true, true⟩) O U σ H1 true ((M.callR as F ds ρ).bind M.chk) Q := h
    unfold M.callR at h
    cases ef : fillA as ds ρ with
    | none => simp only [ef] at h; exact h.elim
    | some es' =>
      simp only [ef] at h
      have lo := r.lows st (fun j ⟨a, u⟩ => st.uS j a u) ef
      have av : ∀ b, ¬ Av (fun _ => False) (fun _ => none) b := fun b z => by
        rcases z with z | ⟨i, z⟩
        · exact z
        · cases z
      refine ⟨fun _ => False, fun _ => none, es', ⟨by rw [List.length_map, List.length_map, lo.length], fun i d e _ => ?_, nofun, nofun, nofun, nofun, nofun, nofun, st.tab⟩, ?_⟩
      · have e' : es'[i]? = some d := by
          rw [List.getElem?_map] at e
          cases q : es'[i]? with
          | none => rw [q] at e; cases e
          | some d' => rw [q] at e; cases e; rfl
        obtain ⟨v, q1, q2⟩ := lo.get e'
        exact ⟨v, by rw [List.getElem?_map, q1]; rfl, q2.imp fun b z => (av b z).elim⟩
      · cases eF : F es' with
        | bad => rw [eF] at h; exact h.elim
        | ok d ρ' =>
          simp only [eF] at h
          intro v H' k' tb ct rv _
          have sm : Same H1 H' := fun b o e t => k' b o e t (.inl nofun)
          have h : Res c (RpL c.K c.P ⟨true, true, true, true⟩) O U σ H1 true (M.chk d ρ) Q := h
          unfold M.chk at h
          by_cases hn : noList d = true
          · rw [if_pos hn] at h
            refine h v H' (st.sameT sm tb) (Keep.of_same sm) (fun _ => sm) (rpl_scal (rv.noL hn) fun ds e => ?_)
            subst e
            simp [noList] at hn
          · rw [if_neg hn] at h; exact h.elim
        | exc y ρ' =>
          simp only [eF] at h
          obtain ⟨n, fl⟩ := y
          cases fl with
          | some _ => exact h.elim
          | none =>
            intro cls dd H' k' tb ct ex
            have sm : Same H1 H' := fun b o e t => k' b o e t (.inl nofun)
            obtain ⟨C, h1, h2, h3⟩ := ex
            exact h cls dd H' (st.sameT sm tb) (Keep.of_same sm) ⟨C, h1, h2, h3⟩) rfl
  rw [Bool.and_true] at this
  exact this
end
end Cr
end
section
set_option Elab.async false
set_option linter.all false
set_option maxRecDepth 100000
set_option maxHeartbeats 4000000
namespace PySem
open AutoSeq1 (wpAny_loadPart')
theorem meets_enumerate_newT (l : Addr) (items : Array Value) (n : Nat) (dct : Option Addr) (sl : Array (Option Value)) :
    Meets (Builtin.«enumerate.__new__» ⟨[.type "enumerate", .ref l], []⟩) (fun _ R s => s.heap.get? l = some { cls := .type "tuple", dict := dct, data := .seq items n, slots := sl } ∧
      R (.ok (.ret (.ref (s.heap.push { cls := .type "tuple_iterator", data := .fields #[.ref l, .int 0 0] }).objs.size)))
        { s with heap := (s.heap.push { cls := .type "tuple_iterator", data := .fields #[.ref l, .int 0 0] }).push { cls := .type "enumerate", data := .fields #[.none, .bool false, .ref s.heap.objs.size, rawInt 0, .none, .none] } }) :=
  .of_wp fun prog w A R s h => by
    obtain ⟨hp, g, d, tk, os⟩ := s; obtain ⟨hl, h⟩ := h
    have hsub := sub_enumerate
    have hL : Heap.IsTuple (Shared.heap ⟨hp, g, d, tk, os⟩) l items := ⟨_, hl, rfl, n, rfl⟩
    wp_walk using wpAny_loadPart' hl
    refine wpAny_stack_any fun st => wpAny_pure ?_
    split
    · rename_i c _ _ _ _ _
      cases (c == Value.type "enumerate")
      · wp_walk using wpAny_loadPart' hl, wpAny_pyIter_tuple hL
        exact ⟨_, rfl, h⟩
      · wp_walk using wpAny_loadPart' hl, wpAny_pyIter_tuple hL
        exact ⟨_, rfl, h⟩
    · wp_walk using wpAny_loadPart' hl, wpAny_pyIter_tuple hL
      exact ⟨_, rfl, h⟩
theorem call_enumerate_tup {prog : Program} {w : World} {A : Around} {E : Value → Shared → Prop} {s : Shared} {l : Addr} {items : Array Value} {Q : Value → Shared → Prop} (hL : s.heap.IsTuple l items)
    (h : ∀ h', IsEnum h' (s.heap.objs.size + 1) s.heap.objs.size 0 .none → h'.IsTupleIter s.heap.objs.size l 0 → h'.objs.size = s.heap.objs.size + 2 →
      (∀ b o, s.heap.get? b = some o → h'.get? b = some o) → Q (.ref (s.heap.objs.size + 1)) { s with heap := h' }) :
    wpAny (model prog w) A (call (.type "enumerate") [.ref l]) Q E s := by
  obtain ⟨⟨c, dct, dt, sl⟩, hl, hc, n, hd⟩ := hL
  replace hc : c = .type "tuple" := hc
  replace hd : dt = .seq items n := hd
  subst hc hd
  refine callType_new F.called_enumerate (by decide) (F.typeCall_enumerate_1 _) (F.newCall_enumerate_1 _) (fun obj => F.args_object_init_2 obj _) F.entry_enumerate_new
    (meets_enumerate_newT l items n dct sl) ⟨hl, ?_⟩
  have hz : (s.heap.push { cls := .type "tuple_iterator", data := .fields #[.ref l, .int 0 0] }).objs.size = s.heap.objs.size + 1 := Heap.size_push ..
  show _ ∧ _
  rw [hz]
  have he : IsEnum ((s.heap.push { cls := .type "tuple_iterator", data := .fields #[.ref l, .int 0 0] }).push
      { cls := .type "enumerate", data := .fields #[.none, .bool false, .ref s.heap.objs.size, rawInt 0, .none, .none] }) (s.heap.objs.size + 1) s.heap.objs.size 0 .none := by
    have := Heap.get?_push_size (s.heap.push { cls := .type "tuple_iterator", data := .fields #[.ref l, .int 0 0] })
      (o := { cls := .type "enumerate", data := .fields #[.none, .bool false, .ref s.heap.objs.size, rawInt 0, .none, .none] }) rfl
    rw [hz] at this; exact this
  refine ⟨⟨_, he, rfl⟩, h _ he ⟨_, Heap.get?_push_of_some _ (Heap.get?_push_size _ rfl), rfl, rfl⟩ (by rw [Heap.size_push, hz]) fun b o x => Heap.get?_push_of_some _ (Heap.get?_push_of_some _ x)⟩
end PySem
namespace Cr
open PySem PySem.Spec L2
set_option autoImplicit false
/-! ### what is gone through: a list, a tuple, a text -/
inductive Src where
  | lst (a : Addr)
  | tup (a : Addr)
  | str (x : Str)
def sgn (x : Str) : List V := x.cps.toList.map fun c => .str ⟨#[c]⟩
def Src.has (K : Fr) (H : Hp) : Src → List V → Prop
  | .lst a, xs => SqL K H a xs
  | .tup a, xs => SqT K H a xs
  | .str x, xs => xs = sgn x
def Src.v : Src → V
  | .lst a => .ref a
  | .tup a => .ref a
  | .str x => .str x
def Src.iter (it : Addr) : Src → Nat → Heap → Prop
  | .lst a, i, h => h.IsListIter it a i
  | .tup a, i, h => h.IsTupleIter it a i
  | .str x, i, h => ∃ t, h.IsStrIter it (strIterType x) x t i
def Src.adr : Src → List Addr
  | .lst a => [a]
  | .tup a => [a]
  | .str _ => []
section
variable {X : Cx} {pins : List (Addr × Obj)} {σ : L2.St} {H : Hp} {s : Shared} {xs ys : List V} {b it : Addr} {i : Nat}
theorem base_fp {o : Obj} (I : Inv X pins σ H s) (h : X.K.lookup b = some o) (hf : FpOk X pins H b) : False := by
  have e := I.mod.kin b o h
  have n := I.ok.noex b o e
  have l := Heap.lt_size e
  have z := I.ok.bsz
  rcases hf.2.2.2.1 with q | q
  · exact n q
  · exact absurd (Nat.lt_of_lt_of_le l (Nat.le_trans z q)) (Nat.lt_irrefl _)
theorem rd_fp {u : HO} (h : Rd H b u) (hf : FpOk X pins H b) : False := by
  have := hf.1
  rcases h with h | ⟨o, h⟩ <;> (rw [h] at this; cases this)
theorem src_ne (S : Src) (I : Inv X pins σ H s) (h : S.has X.K H xs) (hf : FpOk X pins H b) : b ∉ S.adr := by
  intro hb
  cases S with
  | lst a =>
    have e : b = a := by simpa [Src.adr] using hb
    subst e
    rcases h with h | ⟨o, _, _, h, _⟩
    · exact rd_fp h hf
    · exact base_fp I h hf
  | tup a =>
    have e : b = a := by simpa [Src.adr] using hb
    subst e
    rcases h with h | ⟨o, _, _, h, _⟩
    · exact rd_fp h hf
    · exact base_fp I h hf
  | str x => cases hb
theorem src_inj (S : Src) (I : Inv X pins σ H s) (h : S.has X.K H xs) (h' : S.has X.K H ys) : xs = ys := by
  cases S with
  | lst a => exact I.list_inj h h'
  | tup a => exact I.tuple_inj h h'
  | str x => exact Eq.trans h (Eq.symm h')
theorem vals_getU : ∀ {xs : List V} {us : List Value} {i : Nat} {u : Value}, Vals xs us → us[i]? = some u → ∃ x, xs[i]? = some x ∧ RelV x u
  | _, _, _, _, .nil, e => by simp at e
  | _, _, 0, _, .cons h _, e => by simp at e; subst e; exact ⟨_, rfl, h⟩
  | _, _, i + 1, u, .cons _ r, e => by
    obtain ⟨v, q, z⟩ := vals_getU (i := i) (u := u) r (by simpa using e)
    exact ⟨v, by simpa using q, z⟩
theorem src_draws (S : Src) (I : Inv X pins σ H s) (h : S.has X.K H xs) (st : S.iter it i s.heap) (hf : FpOk X pins H it) {A : Around} (hh : A.handled = none) :
    ∃ (P : Nat → Value → Prop) (St : Nat → Heap → Prop), Draws X.prog X.w A it (it :: S.adr) xs.length P St ∧ St i s.heap ∧ (∀ i h, St i h → S.iter it i h) ∧ ∀ i v, P i v → ∃ x, xs[i]? = some x ∧ RelV x v := by
  have ne := src_ne S I h hf
  cases S with
  | lst a =>
    obtain ⟨its, rv, p, hz⟩ := I.list h
    have e : its.toArray.size = xs.length := by rw [List.size_toArray]; exact rv.length.symm
    refine ⟨_, _, e ▸ Draws.list hh it a (fun z => ne (by simp [Src.adr, z])) its.toArray, ⟨st, p.isList⟩, fun _ _ z => z.1, fun j v z => ?_⟩
    have z : its[j]? = some v := by simpa using z
    exact vals_getU rv z
  | tup a =>
    obtain ⟨its, rv, p, hz⟩ := I.tuple h
    have e : its.toArray.size = xs.length := by rw [List.size_toArray]; exact rv.length.symm
    refine ⟨_, _, e ▸ Draws.tuple hh it a (fun z => ne (by simp [Src.adr, z])) its.toArray, ⟨st, show s.heap.IsTuple a its.toArray from p⟩, fun _ _ z => z.1, fun j v z => ?_⟩
    have z : its[j]? = some v := by simpa using z
    exact vals_getU rv z
  | str x =>
    obtain ⟨t, st⟩ := st
    have h : xs = sgn x := h
    have e : x.cps.size = xs.length := by rw [h]; simp [sgn]
    refine ⟨_, _, e ▸ Draws.text hh it x t, st, fun _ _ z => ⟨t, z⟩, fun j v z => ?_⟩
    obtain ⟨c, u, h1, rfl⟩ := z
    refine ⟨.str ⟨#[c]⟩, ?_, ⟨u, rfl⟩⟩
    rw [h]
    simp [sgn, h1]
theorem src_begins (S : Src) (I : Inv X pins σ H s) (h : S.has X.K H xs) {u : Value} (r : RelV S.v u) : ∃ (o : Obj) (B : Heap → Prop), Begins u o B ∧ B s.heap ∧ ∀ it h, h.get? it = some o → S.iter it 0 h := by
  cases S with
  | lst a =>
    cases r
    obtain ⟨its, rv, p, hz⟩ := I.list h
    exact ⟨_, _, begins_list a its.toArray, p.isList, fun it h e => ⟨_, e, rfl, rfl⟩⟩
  | tup a =>
    cases r
    obtain ⟨its, rv, p, hz⟩ := I.tuple h
    exact ⟨_, _, begins_tuple a its.toArray, p, fun it h e => ⟨_, e, rfl, rfl⟩⟩
  | str x =>
    obtain ⟨t, rfl⟩ := r
    exact ⟨_, _, begins_text x t, trivial, fun it h e => ⟨t, _, e, rfl, rfl⟩⟩
theorem src_obj (S : Src) {h : Heap} (st : S.iter it i h) : ∃ o, h.get? it = some o ∧ ∀ v, o.data ≠ .cell v := by
  cases S with
  | lst a => obtain ⟨o, e, _, d⟩ := st; exact ⟨o, e, fun v z => by rw [d] at z; cases z⟩
  | tup a => obtain ⟨o, e, _, d⟩ := st; exact ⟨o, e, fun v z => by rw [d] at z; cases z⟩
  | str x => obtain ⟨t, o, e, _, d⟩ := st; exact ⟨o, e, fun v z => by rw [d] at z; cases z⟩
theorem src_keep (S : Src) {h h' : Heap} (st : S.iter it i h) (k : ∀ o, h.get? it = some o → h'.get? it = some o) : S.iter it i h' := by
  cases S with
  | lst a => exact Heap.IsListIter.at st k
  | tup a => exact Heap.IsTupleIter.at st k
  | str x => obtain ⟨t, o, e, r⟩ := st; exact ⟨t, o, k o e, r⟩
/-! ### enumerate -/
def ItE (K : Fr) (S : Src) : It :=
  ⟨fun i H => ∃ (xs : List V) (x : V), S.has K H xs ∧ xs[i]? = some x, fun i H v H' => ∃ T x, v = .ref T ∧ H T = none ∧ H' = upd H T (.tup [.int (i : Nat), x]) ∧ ∀ xs, S.has K H xs → xs[i]? = some x, fun i H => ∃ xs : List V, S.has K H xs ∧ xs.length = i⟩
theorem turn_enumS {P : Program} {w : World} {K : Fr} {elts : List Expr} {kk : Nat} {tpos : Pos} (S : Src) (e it : Addr) :
    Turn P w K (.Tuple elts kk tpos) (ItE K S) [e, it] e (fun i h => (∃ old, IsEnum h e it ((i : Nat) : Int) old) ∧ S.iter it i h ∧ e ≠ it) where
  mem := by simp
  obj := fun i h st b hb => by
    obtain ⟨⟨old, he⟩, hi, _⟩ := st
    have e' : b = e ∨ b = it := by simpa using hb
    rcases e' with z | z
    · rw [z]; exact ⟨_, he, fun v q => nomatch q⟩
    · rw [z]; exact src_obj S hi
  keep := fun i h h' st k => let ⟨⟨old, he⟩, hi, hne⟩ := st; ⟨⟨old, k e (by simp) _ he⟩, src_keep S hi fun o q => k it (by simp) o q, hne⟩
  item := by
    intro X hP hw hK hc i pins s σ H E I hf st hg
    subst hP hw hK
    obtain ⟨⟨old, he⟩, hit, hne⟩ := st
    obtain ⟨xs, x, hq, hx⟩ := hg
    obtain ⟨Pd, St, D, st0, sti, sp⟩ := src_draws S I hq hit (hf it (by simp)) (A := X.A.in1) (I.ok.hd hc)
    have hel : e < s.heap.objs.size := Heap.lt_size he
    have hil : it < s.heap.objs.size := by obtain ⟨o, q, _⟩ := src_obj S hit; exact Heap.lt_size q
    have hlt : i < xs.length := (List.getElem?_eq_some_iff.mp hx).1
    refine wpAny_pyNext_enum_itemD D he st0 hlt hne (fun z => ?_) fun u h' tk hu ho hit' hT hsz hk => ?_
    · rcases List.mem_cons.mp z with z | z
      · exact hne z
      · exact src_ne S I hq (hf e (by simp)) z
    obtain ⟨x', hx', ru⟩ := sp _ _ hu
    rw [hx] at hx'; cases hx'
    refine ⟨_, rfl, wpAny_letOwnedTupleGo_enum (s := { s with heap := h', toks := tk + 1 }) ho fun h'' he' sb => ?_⟩
    have hT2 : h''.get? s.heap.objs.size = some { cls := .type "tuple", data := .seq #[.int i tk, u] } := (sb.2 _ (Nat.ne_of_gt hel)).trans hT
    have new : ObjOk X.prog X.w (upd H s.heap.objs.size (.tup [.int (i : Nat), x])) h'' s.heap.objs.size (.tup [.int (i : Nat), x]) :=
      ⟨by show 2 ≤ sizeLine; decide, [.int i tk, u], .cons ⟨_, rfl⟩ (.cons ru .nil), ⟨_, hT2, rfl, _, rfl⟩⟩
    have I1 : Inv X pins σ (upd H s.heap.objs.size (.tup [.int (i : Nat), x])) { s with heap := h'', toks := tk + 1 } :=
      I.turnedNew (ch := [e, it]) (fun b ob hb q => (sb.2 b (fun z => hb (by simp [z]))).trans (hk b ob (fun z => hb (by simp [z])) (fun z => hb (by simp [z])) q)) hf (Nat.le_refl _) new
    refine ⟨.ref s.heap.objs.size, _, I1, rfl, ⟨_, x, rfl, I.hok.fresh (Nat.le_refl _), rfl, fun ys hy => by rw [src_inj S I hy hq]; exact hx⟩, ⟨⟨u, ?_⟩, src_keep S (sti _ _ hit') fun o q => (sb.2 it (Ne.symm hne)).trans q, hne⟩, fun b hb => ?_⟩
    · have e1 : ((i + 1 : Nat) : Int) = (i : Int) + 1 := by omega
      rw [e1]; exact he'
    · have hb' : b < s.heap.objs.size := by
        have e' : b = e ∨ b = it := by simpa using hb
        rcases e' with z | z
        · rw [z]; exact hel
        · rw [z]; exact hil
      rw [upd_ne (Nat.ne_of_lt hb')]
      exact (hf b hb).1
  done := by
    intro X hP hw hK hc i pins s σ H E I hf st hg
    subst hP hw hK
    obtain ⟨⟨old, he⟩, hit, hne⟩ := st
    obtain ⟨xs, hq, hx⟩ := hg
    subst hx
    obtain ⟨Pd, St, D, st0, sti, sp⟩ := src_draws S I hq hit (hf it (by simp)) (A := X.A.in1) (I.ok.hd hc)
    obtain ⟨f0, f1, f2, f3, f4, f5⟩ := hf it (by simp)
    exact wpAny_pyNext_enum_endD D he st0 fun h' eb => ⟨rfl, I.turned (t' := s.toks) (fun b o hb q => eb b o hb q) f0 f1 f3 f4 f5⟩
  self := fun A i s Q E st h => let ⟨⟨_, he⟩, _⟩ := st; wpAny_pyIter_enum he h
def iEnumS (K : Fr) (ta : TA) : TI := fun σ H R => ta σ H fun vs H1 => ∃ S xs, vs = [Src.v S] ∧ S.has K H1 xs ∧ R (ItE K S) H1
theorem pi_enumS {X : Cx} {e : Expr} {ta : TA} {p pos tpos : Pos} {elts : List Expr} {kk : Nat} (hg : Gl X "enumerate") (hm : X.mg "enumerate" = none) (ha : PA X [e] ta) (hs : starEach [e] X.env = [(false, eval e X.env)]) :
    PI X (.Tuple elts kk tpos) (.Call (.Name "enumerate" p) [e] [] pos) (iEnumS X.K ta) := by
  refine ⟨fun pins s σ H R I h => ?_⟩
  refine PyProof.Rows.Call_ (ld_blt I hg hm PyProof.Rows.boot_enumerate (PyProof.Rows.callWith_type1 (thn (ha.run pos pins s σ H _ I h) fun us s1 ⟨vs, H1, I1, r1, q1⟩ => ?_) hs rfl))
  obtain ⟨S, xs, ex, hq, q⟩ := q1
  subst ex
  cases r1 with
  | cons r rr =>
    cases rr
    have fin : ∀ (u : Value) h', IsEnum h' (s1.heap.objs.size + 1) s1.heap.objs.size 0 .none → S.iter s1.heap.objs.size 0 h' → h'.objs.size = s1.heap.objs.size + 2 →
        (∀ b o, s1.heap.get? b = some o → h'.get? b = some o) → wpAny (model X.prog X.w) X.A (pyIter (.ref (s1.heap.objs.size + 1))) (PIE X pins σ (.Tuple elts kk tpos) R) X.xe { s1 with heap := h' } := fun u h' he hit hsz hk => by
      refine wpAny_pyIter_enum he ?_
      have I2 : Inv X pins σ H1 { s1 with heap := h' } := I1.kept (t' := s1.toks) hk
      refine ⟨s1.heap.objs.size + 1, [s1.heap.objs.size + 1, s1.heap.objs.size], _, _, H1, rfl, I2, turn_enumS S (s1.heap.objs.size + 1) s1.heap.objs.size, ⟨⟨.none, he⟩, hit, Nat.succ_ne_self _⟩, fun b hb => ?_, q⟩
      have e' : b = s1.heap.objs.size + 1 ∨ b = s1.heap.objs.size := by simpa using hb
      have hle : s1.heap.objs.size ≤ b := by
        rcases e' with z | z
        · rw [z]; exact Nat.le_add_right _ _
        · rw [z]; exact Nat.le_refl _
      exact I1.fpOk hle (I1.hok.fresh hle)
    cases S with
    | lst a =>
      cases r
      obtain ⟨its, rv, p', hz⟩ := I1.list hq
      exact call_enumerate_list p'.isList fun h' he hit hsz hk => fin .none h' he hit hsz hk
    | tup a =>
      cases r
      obtain ⟨its, rv, p', hz⟩ := I1.tuple hq
      exact call_enumerate_tup (show s1.heap.IsTuple a its.toArray from p') fun h' he hit hsz hk => fin .none h' he hit hsz hk
    | str x =>
      obtain ⟨t, rfl⟩ := r
      exact call_enumerate_str fun h' he hit hsz hk => fin .none h' he ⟨t, hit⟩ hsz hk
/-! ### zip -/
def ItZ (K : Fr) (S1 S2 : Src) : It :=
  ⟨fun i H => ∃ (xs ys : List V) (x y : V), S1.has K H xs ∧ S2.has K H ys ∧ xs[i]? = some x ∧ ys[i]? = some y,
    fun i H v H' => ∃ T x y, v = .ref T ∧ H T = none ∧ H' = upd H T (.tup [x, y]) ∧ (∀ xs, S1.has K H xs → xs[i]? = some x) ∧ ∀ ys, S2.has K H ys → ys[i]? = some y,
    fun i H => ∃ xs ys : List V, S1.has K H xs ∧ S2.has K H ys ∧ i ≤ xs.length ∧ i ≤ ys.length ∧ (i = xs.length ∨ i = ys.length)⟩
structure ZA (z TI TO i1 i2 : Addr) : Prop where
  TIz : TI ≠ z
  TOz : TO ≠ z
  i1z : i1 ≠ z
  i2z : i2 ≠ z
  TITO : TI ≠ TO
  TIi1 : TI ≠ i1
  TIi2 : TI ≠ i2
  TOi1 : TO ≠ i1
  TOi2 : TO ≠ i2
  i12 : i1 ≠ i2
theorem ZA.sep {X : Cx} {pins : List (Addr × Obj)} {σ : L2.St} {H : Hp} {s : Shared} {xs ys : List V} {z TI TO i1 i2 : Addr} (D : ZA z TI TO i1 i2) (S1 S2 : Src) (I : Inv X pins σ H s) (h1 : S1.has X.K H xs) (h2 : S2.has X.K H ys) (hf : ∀ b ∈ [z, TI, TO, i1, i2], FpOk X pins H b) :
    ZipSep2 z TI TO i1 i2 (i1 :: S1.adr) (i2 :: S2.adr) := by
  have n1 : ∀ b ∈ [z, TI, TO, i1, i2], b ∉ S1.adr := fun b hb => src_ne S1 I h1 (hf b hb)
  have n2 : ∀ b ∈ [z, TI, TO, i1, i2], b ∉ S2.adr := fun b hb => src_ne S2 I h2 (hf b hb)
  refine ⟨D.TIz, D.TOz, D.TITO, D.TIi1, by simp, ?_, ?_, D.TIi2, by simp, ?_, ?_, ?_, ?_⟩ <;> simp only [List.mem_cons, not_or]
  · exact ⟨D.i1z.symm, n1 _ (by simp)⟩
  · exact ⟨D.TOi1, n1 _ (by simp)⟩
  · exact ⟨D.i2z.symm, n2 _ (by simp)⟩
  · exact ⟨D.TOi2, n2 _ (by simp)⟩
  · exact ⟨D.i12, n2 _ (by simp)⟩
  · exact ⟨D.i12.symm, n1 _ (by simp)⟩
theorem turn_zipS {P : Program} {w : World} {K : Fr} {elts : List Expr} {kk : Nat} {tpos : Pos} {z TI TO i1 i2 : Addr} (S1 S2 : Src) (D : ZA z TI TO i1 i2) :
    Turn P w K (.Tuple elts kk tpos) (ItZ K S1 S2) [z, TI, TO, i1, i2] z (fun i h => IsZip h z TI TO .none ∧ IsTupOf2 h TI (.ref i1) (.ref i2) ∧ (∃ x y, IsTupOf2 h TO x y) ∧ S1.iter i1 i h ∧ S2.iter i2 i h) where
  mem := by simp
  obj := fun i h st c hc => by
    obtain ⟨hz, hTI, ⟨x, y, hTO⟩, h1, h2⟩ := st
    have e' : c = z ∨ c = TI ∨ c = TO ∨ c = i1 ∨ c = i2 := by simpa using hc
    rcases e' with q | q | q | q | q
    · rw [q]; exact ⟨_, hz, fun v q => nomatch q⟩
    · rw [q]; exact ⟨_, hTI, fun v q => nomatch q⟩
    · rw [q]; exact ⟨_, hTO, fun v q => nomatch q⟩
    · rw [q]; exact src_obj S1 h1
    · rw [q]; exact src_obj S2 h2
  keep := fun i h h' st k => by
    obtain ⟨hz, hTI, ⟨x, y, hTO⟩, h1, h2⟩ := st
    exact ⟨k z (by simp) _ hz, k TI (by simp) _ hTI, ⟨x, y, k TO (by simp) _ hTO⟩, src_keep S1 h1 fun o q => k i1 (by simp) o q, src_keep S2 h2 fun o q => k i2 (by simp) o q⟩
  item := by
    intro X hP hw hK hc i pins s σ H E I hf st hg
    subst hP hw hK
    obtain ⟨hz, hTI, ⟨x0, y0, hTO⟩, h1, h2⟩ := st
    obtain ⟨xs, ys, x, y, hqx, hqy, hx, hy⟩ := hg
    obtain ⟨P1, St1, D1, a1, b1, c1⟩ := src_draws S1 I hqx h1 (hf i1 (by simp)) (A := X.A.in1) (I.ok.hd hc)
    obtain ⟨P2, St2, D2, a2, b2, c2⟩ := src_draws S2 I hqy h2 (hf i2 (by simp)) (A := X.A.in1) (I.ok.hd hc)
    have hzl : z < s.heap.objs.size := Heap.lt_size hz
    refine wpAny_pyNext_zipD2_item (D.sep S1 S2 I hqx hqy hf) D1 D2 hz hTI hTO a1 a2 (List.getElem?_eq_some_iff.mp hx).1 (List.getElem?_eq_some_iff.mp hy).1 fun u u2 h' tk hu hu2 z' TO' h1' h2' hT hsz hk => ?_
    obtain ⟨x', hx', ru⟩ := c1 _ _ hu
    rw [hx] at hx'; cases hx'
    obtain ⟨y', hy', ru2⟩ := c2 _ _ hu2
    rw [hy] at hy'; cases hy'
    refine ⟨_, rfl, wpAny_letOwnedTupleGo_zip (s := { s with heap := h', toks := tk }) z' fun h'' z'' sb => ?_⟩
    have hT2 : h''.get? s.heap.objs.size = some { cls := .type "tuple", data := .seq #[u, u2] } := (sb.2 _ (Nat.ne_of_gt hzl)).trans hT
    have new : ObjOk X.prog X.w (upd H s.heap.objs.size (.tup [x, y])) h'' s.heap.objs.size (.tup [x, y]) :=
      ⟨by show 2 ≤ sizeLine; decide, [u, u2], .cons ru (.cons ru2 .nil), ⟨_, hT2, rfl, _, rfl⟩⟩
    have I1 : Inv X pins σ (upd H s.heap.objs.size (.tup [x, y])) { s with heap := h'', toks := tk } :=
      I.turnedNew (ch := [z, TI, TO, i1, i2]) (fun c o hb q => (sb.2 c (fun q' => hb (by simp [q']))).trans (hk c o (fun q' => hb (by simp [q'])) (fun q' => hb (by simp [q'])) (fun q' => hb (by simp [q'])) (fun q' => hb (by simp [q'])) q)) hf (Nat.le_refl _) new
    refine ⟨.ref s.heap.objs.size, _, I1, rfl, ⟨_, x, y, rfl, I.hok.fresh (Nat.le_refl _), rfl, fun l hl => by rw [src_inj S1 I hl hqx]; exact hx, fun l hl => by rw [src_inj S2 I hl hqy]; exact hy⟩, ⟨z'', ?_, ⟨u, u2, ?_⟩, ?_, ?_⟩, fun c hcm => ?_⟩
    · exact (sb.2 _ D.TIz).trans (hk _ _ D.TIz D.TITO D.TIi1 D.TIi2 hTI)
    · exact (sb.2 _ D.TOz).trans TO'
    · exact src_keep S1 (b1 _ _ h1') fun o q => (sb.2 _ D.i1z).trans q
    · exact src_keep S2 (b2 _ _ h2') fun o q => (sb.2 _ D.i2z).trans q
    · have hlt : c < s.heap.objs.size := by
        have e' : c = z ∨ c = TI ∨ c = TO ∨ c = i1 ∨ c = i2 := by simpa using hcm
        rcases e' with q | q | q | q | q
        · rw [q]; exact hzl
        · rw [q]; exact Heap.lt_size hTI
        · rw [q]; exact Heap.lt_size hTO
        · rw [q]; obtain ⟨_, e1, _⟩ := src_obj S1 h1; exact Heap.lt_size e1
        · rw [q]; obtain ⟨_, e2, _⟩ := src_obj S2 h2; exact Heap.lt_size e2
      rw [upd_ne (Nat.ne_of_lt hlt)]
      exact (hf c hcm).1
  done := by
    intro X hP hw hK hc i pins s σ H E I hf st hg
    subst hP hw hK
    obtain ⟨hz, hTI, ⟨x0, y0, hTO⟩, h1, h2⟩ := st
    obtain ⟨xs, ys, hqx, hqy, l1, l2, he⟩ := hg
    obtain ⟨P1, St1, D1, a1, b1, c1⟩ := src_draws S1 I hqx h1 (hf i1 (by simp)) (A := X.A.in1) (I.ok.hd hc)
    obtain ⟨P2, St2, D2, a2, b2, c2⟩ := src_draws S2 I hqy h2 (hf i2 (by simp)) (A := X.A.in1) (I.ok.hd hc)
    exact wpAny_pyNext_zipD2_end (D.sep S1 S2 I hqx hqy hf) D1 D2 hz hTI hTO a1 a2 l1 l2 he fun h' tk hk => ⟨rfl, I.turnedL (t' := tk) (ch := [z, TI, TO, i1, i2]) (fun c o hb q =>
      hk c o (fun q' => hb (by simp [q'])) (fun q' => hb (by simp [q'])) (fun q' => hb (by simp [q'])) (fun q' => hb (by simp [q'])) q) hf⟩
  self := fun A i s Q E st h => wpAny_pyIter_zip st.1 h
def iZipS (K : Fr) (ta : TA) : TI := fun σ H R => ta σ H fun vs H1 => ∃ S1 S2 xs ys, vs = [Src.v S1, Src.v S2] ∧ S1.has K H1 xs ∧ S2.has K H1 ys ∧ R (ItZ K S1 S2) H1
theorem pi_zipS {X : Cx} {e e2 : Expr} {ta : TA} {p pos tpos : Pos} {elts : List Expr} {kk : Nat} (hg : Gl X "zip") (hm : X.mg "zip" = none) (ha : PA X [e, e2] ta)
    (hs : starEach [e, e2] X.env = (false, eval e X.env) :: starEach [e2] X.env) (hpl : (backTo pos (starEach [e2] X.env)).any (·.1) = false) :
    PI X (.Tuple elts kk tpos) (.Call (.Name "zip" p) [e, e2] [] pos) (iZipS X.K ta) := by
  refine ⟨fun pins s σ H R I h => ?_⟩
  refine PyProof.Rows.Call_ (ld_blt I hg hm PyProof.Rows.boot_zip (PyProof.Rows.callWith_type1 (thn (ha.run pos pins s σ H _ I h) fun us s1 ⟨vs, H1, I1, r1, q1⟩ => ?_) hs hpl))
  obtain ⟨S1, S2, xs, ys, ex, hqx, hqy, q⟩ := q1
  subst ex
  cases r1 with
  | cons r rr =>
    cases rr with
    | cons r' rr =>
      cases rr
      obtain ⟨o1, B1, bg1, hB1, it1⟩ := src_begins S1 I1 hqx r
      obtain ⟨o2, B2, bg2, hB2, it2⟩ := src_begins S2 I1 hqy r'
      refine zip_begins2 bg1 bg2 hB1 hB2 fun h' hz hTI hTO h1 h2 hsz hk => wpAny_pyIter_zip hz ?_
      have I2 : Inv X pins σ H1 { s1 with heap := h' } := I1.kept (t' := s1.toks) hk
      have za : ZA (s1.heap.objs.size + 4) (s1.heap.objs.size + 2) (s1.heap.objs.size + 3) s1.heap.objs.size (s1.heap.objs.size + 1) := by
        constructor <;> (intro z; have z : (_ : Nat) = _ := z; omega)
      refine ⟨s1.heap.objs.size + 4, [s1.heap.objs.size + 4, s1.heap.objs.size + 2, s1.heap.objs.size + 3, s1.heap.objs.size, s1.heap.objs.size + 1], _, _, H1, rfl, I2, turn_zipS S1 S2 za, ⟨hz, hTI, ⟨_, _, hTO⟩, it1 _ _ h1, it2 _ _ h2⟩, fun c hcm => ?_, q⟩
      have e' : c = s1.heap.objs.size + 4 ∨ c = s1.heap.objs.size + 2 ∨ c = s1.heap.objs.size + 3 ∨ c = s1.heap.objs.size ∨ c = s1.heap.objs.size + 1 := by simpa using hcm
      have hle : s1.heap.objs.size ≤ c := by
        rcases e' with z | z | z | z | z
        · rw [z]; exact Nat.le_add_right _ _
        · rw [z]; exact Nat.le_add_right _ _
        · rw [z]; exact Nat.le_add_right _ _
        · rw [z]; exact Nat.le_refl _
        · rw [z]; exact Nat.le_add_right _ _
      exact I1.fpOk hle (I1.hok.fresh hle)
/-! ### themselves -/
def Src.its (K : Fr) : Src → It
  | .lst a => Itl K a
  | .tup a => Itt K a
  | .str x => Its x
def iSrc (K : Fr) (te : TE) : TI := fun σ H R => te σ H fun v H1 => ∃ S xs, v = Src.v S ∧ S.has K H1 xs ∧ R (S.its K) H1
theorem pi_src {X : Cx} {tg e : Expr} {te : TE} (he : PE X e te) : PI X tg e (iSrc X.K te) := by
  refine ⟨fun pins s σ H R I h => ?_⟩
  refine thn (he.run pins s σ H _ I h) fun v s1 ⟨x, H1, I1, r1, S, xs, e, hq, q⟩ => ?_
  subst e
  cases S with
  | lst a =>
    cases r1
    obtain ⟨its, rv, p, hz⟩ := I1.list hq
    refine wpAny_pyIter_list p.isList ?_
    exact pi_one (tk := s1.toks) I1 _ (turn_list a _) ⟨_, Heap.get?_push_size _ rfl, rfl, rfl⟩ q
  | tup a =>
    cases r1
    obtain ⟨its, rv, p, hz⟩ := I1.tuple hq
    refine wpAny_pyIter_tuple (show s1.heap.IsTuple a its.toArray from p) ?_
    exact pi_one (tk := s1.toks) I1 _ (turn_tuple a _) ⟨_, Heap.get?_push_size _ rfl, rfl, rfl⟩ q
  | str x =>
    obtain ⟨t, rfl⟩ := r1
    cases ha : x.cps.all (· < 128)
    · exact wpAny_pyIter_wide ha (pi_one (tk := s1.toks) I1 _ (turn_str _ x t "str_iterator" (.inr rfl)) ⟨_, Heap.get?_push_size _ rfl, rfl, rfl⟩ q)
    · exact wpAny_pyIter_ascii ha (pi_one (tk := s1.toks) I1 _ (turn_str _ x t "str_ascii_iterator" (.inl rfl)) ⟨_, Heap.get?_push_size _ rfl, rfl, rfl⟩ q)
end
end Cr
end
section
set_option Elab.async false
set_option linter.all false
set_option maxRecDepth 100000
set_option maxHeartbeats 4000000
namespace Cr
open PySem PySem.Spec L2
set_option autoImplicit false
/-! ### what is gone through stays -/
abbrev Gd := List (Nat × D)
structure Gh (K : Fr) (O O2 : AS) (U U2 : Nat → Option Addr) (H1 : Hp) (gs : Gd) (H2 : Hp) : Prop where
  keep : Keep U H1 H2
  ch : ∀ b, Av O2 U2 b → Av O U b ∨ ¬ Dn H1 b
  gd : ∀ j ds, (j, PyData.list ds) ∈ gs → ∃ a vs, U j = some a ∧ U2 j = some a ∧ H2 a = some (.lst vs) ∧ RpAll K (Av O2 U2) H2 vs ds
def Dm (H H' : Hp) : Prop := ∀ b, Dn H b → Dn H' b
theorem Dm.refl {H : Hp} : Dm H H := fun _ z => z
theorem Dm.trans {H H1 H2 : Hp} (a : Dm H H1) (b : Dm H1 H2) : Dm H H2 := fun c z => b c (a c z)
theorem Dm.of {U : Nat → Option Addr} {H H' : Hp} (k : Keep U H H') (dU : ∀ i a, U i = some a → Dn H' a) : Dm H H' := fun b ⟨o, e, n⟩ => by
  by_cases u : ∃ i, U i = some b
  · obtain ⟨i, u⟩ := u; exact dU i b u
  · exact ⟨o, k b o e n (.inl fun i y => u ⟨i, y⟩), n⟩
theorem Gh.from {K : Fr} {O O2 : AS} {U U2 : Nat → Option Addr} {H0 H1 H2 : Hp} {gs : Gd} (g : Gh K O O2 U U2 H1 gs H2) (k : Keep U H0 H1) (dm : Dm H0 H1) : Gh K O O2 U U2 H0 gs H2 :=
  ⟨k.trans g.keep, fun b e => (g.ch b e).imp id fun z w => z (dm b w), g.gd⟩
theorem Gh.sub {K : Fr} {O O2 : AS} {U U2 : Nat → Option Addr} {H1 H2 : Hp} {gs gs' : Gd} (g : Gh K O O2 U U2 H1 gs H2) (s : ∀ x ∈ gs', x ∈ gs) : Gh K O O2 U U2 H1 gs' H2 := ⟨g.keep, g.ch, fun j ds h => g.gd j ds (s _ h)⟩
abbrev RelS (K : Fr) (S : Nat → Bool) (js : List Nat) : Rel V (List D × Gd) := fun O U _ H1 _ v p => ∃ T, v = Src.v T ∧ (∀ q ∈ p.2, S q.1 = true ∧ q.1 ∈ js) ∧ (∃ xs, T.has K H1 xs) ∧ ∀ O2 U2 H2, Gh K O O2 U U2 H1 p.2 H2 → ∃ xs, T.has K H2 xs ∧ RpAll K (Av O2 U2) H2 xs p.1
theorem ant_s {K : Fr} {S : Nat → Bool} {js : List Nat} : Ant (RelS K S js) := fun _ _ _ _ _ _ _ _ _ _ h => h
/-- the walk over the items -/
abbrev RelI (K : Fr) (S : Nat → Bool) (js : List Nat) : Rel It (List D × Gd) := fun O U _ H1 _ J p => (∀ q ∈ p.2, S q.1 = true ∧ q.1 ∈ js) ∧ ∀ O2 U2, Walk J p.1.length (fun H2 => Gh K O O2 U U2 H1 p.2 H2) (fun i H2 x H3 => L2.Same H2 H3 ∧ ∃ d, p.1[i]? = some d ∧ Rp K (Av O2 U2) H3 x d)
theorem ant_i {K : Fr} {S : Nat → Bool} {js : List Nat} : Ant (RelI K S js) := fun _ _ _ _ _ _ _ _ _ _ h => h
structure SrcOk (X : Cx) (c : Cn) (e : Expr) (js : List Nat) (q : Bool) (m : M (List D × Gd)) : Prop where
  ex : ∃ te, PE X e te ∧ Tr c (RelS c.K c.S js) q te m
structure ItOk (X : Cx) (c : Cn) (tg iter : Expr) (js : List Nat) (q : Bool) (m : M (List D × Gd)) : Prop where
  ex : ∃ wi, PI X tg iter wi ∧ Tr c (RelI c.K c.S js) q wi m
def sgnD (x : Str) : List D := x.cps.toList.map fun c => .str ⟨#[c]⟩
def dSrc : D → Option (List D × Gd)
  | .list ds => some (ds, [])
  | .tuple ds => some (ds, [])
  | .str x => some (sgnD x, [])
  | _ => none
theorem rp_sgn {K : Fr} {A : AS} {H : Hp} : ∀ l : List Nat, RpAll K A H (l.map fun c => .str ⟨#[c]⟩) (l.map fun c => PyData.str ⟨#[c]⟩)
  | [] => .nil
  | c :: r => .cons (.str _) (rp_sgn r)
section
variable {X : Cx} {c : Cn} {pos : Pos}
theorem src_ex {e : Expr} {l : Lv} {q : Bool} {m : M D} (h : EvOk X c e l q m) (hp : l.p = true) : SrcOk X c e [] q (m.bind fun d => M.lift (dSrc d)) := by
  obtain ⟨te, p1, t1⟩ := h
  refine ⟨te, p1, ?_⟩
  have := Tr.bind (q2 := true) (f := fun d => M.lift (dSrc d)) (t2 := fun x σ H1 Q => Q x H1) (ant_s (K := c.K) (S := c.S) (js := [])) t1 (fun d x O U σ H H1 ρ Q st k s rx h => by
    have rx := rx.p hp
    have fin : ∀ (S : Src) xs ds, x = S.v → dSrc d = some (ds, []) → RpAll c.K (Av O U) H1 xs ds → (∀ H2, Keep U H1 H2 → S.has c.K H2 xs) → Q x H1 := fun S xs ds e e2 r hs => by
      unfold M.lift at h
      rw [e2] at h
      exact h x H1 st Keep.refl (fun _ => Same.refl H1) ⟨S, e, nofun, ⟨xs, hs _ Keep.refl⟩, fun O2 U2 H2 g => ⟨xs, hs H2 g.keep, rpAll_move g.keep g.ch r⟩⟩
    cases rx with
    | non => exact h.elim
    | bl b => exact h.elim
    | int i => exact h.elim
    | dct _ _ _ _ => exact h.elim
    | scr _ _ => exact h.elim
    | str x => exact fin (.str x) (sgn x) (sgnD x) rfl rfl (rp_sgn _) fun H2 k => rfl
    | @lst a xs ds h' n r => exact fin (.lst a) xs ds rfl rfl r fun H2 k => SqL.of (k _ _ h' rfl (.inl fun i z => n (.inr ⟨i, z⟩)))
    | @tup a xs ds h' r =>
      refine fin (.tup a) xs ds rfl rfl r fun H2 k => ?_
      rcases h' with h' | h'
      · exact SqT.of (k _ _ h' rfl (.inr rfl))
      · exact .inr h') rfl
  rw [Bool.and_true] at this
  exact this
def M.srcOwn (j : Nat) : M (List D × Gd) := (M.get j).bind fun d => match d with
  | .list ds => M.pure (ds, [(j, .list ds)])
  | _ => M.bad
theorem src_own {i : Nat} {x : Str} (hN : X.N[i]? = some x) (hv : Vis X.env.scope x) (hd : (x == ("__debug__" : Str)) = false) (hcd : (x == ("__classdict__" : Str)) = false) (hS : c.S i = true) : SrcOk X c (.Name x pos) [i] true (M.srcOwn i) := by
  refine ⟨_, pe_var hN hv hd hcd, fun O U σ H ρ Q st h => ?_⟩
  have h : Res c (RelS c.K c.S [i]) O U σ H true ((M.get i ρ).bind fun d => match d with
    | .list ds => M.pure (ds, [(i, .list ds)])
    | _ => M.bad) Q := h
  rcases get_cases i ρ with ⟨d, e, z⟩ | z
  · rw [z] at h
    obtain ⟨a, ds, vs, u, e1, e2, e3, r⟩ := st.own i d e hS
    subst e2
    refine ⟨.ref a, e1, h _ H st Keep.refl (fun _ => Same.refl H) ⟨.lst a, rfl, fun q hq => by rw [List.mem_singleton.mp hq]; exact ⟨hS, by simp⟩, ⟨vs, SqL.of e3⟩, fun O2 U2 H2 g => ?_⟩⟩
    obtain ⟨a', vs', u', u2, e', r'⟩ := g.gd i ds (by simp)
    rw [u] at u'; cases u'
    exact ⟨vs', SqL.of e', r'⟩
  · rw [z] at h; exact h.elim
theorem src_its (S : Src) {K : Fr} {G : Hp → Prop} {A : AS} {ds : List D} (h : ∀ H2, G H2 → ∃ xs, S.has K H2 xs ∧ RpAll K A H2 xs ds) : Walk (S.its K) ds.length G (fun i H2 x H3 => L2.Same H2 H3 ∧ ∃ d, ds[i]? = some d ∧ Rp K A H3 x d) := by
  have at_ : ∀ {H2 xs} {i : Nat}, RpAll K A H2 xs ds → i < ds.length → ∃ v, xs[i]? = some v ∧ Rp K A H2 v (ds.getD i .none) ∧ ds[i]? = some (ds.getD i .none) := fun {H2 xs i} r hi => by
    have e : ds[i]? = some (ds.getD i .none) := by simp [hi]
    obtain ⟨v, q, z⟩ := r.get e
    exact ⟨v, q, z, e⟩
  cases S with
  | lst a =>
    refine ⟨fun i H2 hi g => ?_, fun H2 g => ?_, fun i H2 x H3 hi g y => ?_⟩
    · obtain ⟨xs, hs, r⟩ := h H2 g
      obtain ⟨v, q, _⟩ := at_ r hi
      exact ⟨xs, v, hs, q⟩
    · obtain ⟨xs, hs, r⟩ := h H2 g
      exact ⟨xs, hs, by rw [r.length]; exact Nat.le_refl _⟩
    · obtain ⟨xs, hs, r⟩ := h H2 g
      obtain ⟨v, q, z, e⟩ := at_ r hi
      obtain ⟨e1, e2⟩ := y
      subst e1
      have := e2 xs hs
      rw [q] at this; cases this
      exact ⟨L2.Same.refl _, _, e, z⟩
  | tup a =>
    refine ⟨fun i H2 hi g => ?_, fun H2 g => ?_, fun i H2 x H3 hi g y => ?_⟩
    · obtain ⟨xs, hs, r⟩ := h H2 g
      obtain ⟨v, q, _⟩ := at_ r hi
      exact ⟨xs, v, hs, q⟩
    · obtain ⟨xs, hs, r⟩ := h H2 g
      exact ⟨xs, hs, by rw [r.length]; exact Nat.le_refl _⟩
    · obtain ⟨xs, hs, r⟩ := h H2 g
      obtain ⟨v, q, z, e⟩ := at_ r hi
      obtain ⟨e1, e2⟩ := y
      subst e1
      have := e2 xs hs
      rw [q] at this; cases this
      exact ⟨L2.Same.refl _, _, e, z⟩
  | str s =>
    have ln : ∀ H2, G H2 → s.cps.size = ds.length := fun H2 g => by
      obtain ⟨xs, hs, r⟩ := h H2 g
      have hs : xs = sgn s := hs
      rw [← r.length, hs]; simp [sgn]
    refine ⟨fun i H2 hi g => ?_, fun H2 g => ?_, fun i H2 x H3 hi g y => ?_⟩
    · show i < s.cps.size
      rw [ln H2 g]; exact hi
    · show s.cps.size ≤ ds.length
      rw [ln H2 g]; exact Nat.le_refl _
    · obtain ⟨xs, hs, r⟩ := h H2 g
      obtain ⟨v, q, z, e⟩ := at_ r hi
      obtain ⟨e1, cc, e2, e3⟩ := y
      subst e1 e3
      have hs : xs = sgn s := hs
      rw [hs] at q
      have : v = .str ⟨#[cc]⟩ := by
        simp only [sgn, List.getElem?_map, Array.getElem?_toList, e2, Option.map_some, Option.some.injEq] at q
        exact q.symm
      subst this
      exact ⟨L2.Same.refl _, _, e, z⟩
theorem Src.stay (S : Src) {K : Fr} {H H' : Hp} {xs : List V} (h : S.has K H xs) (s : Same H H') : S.has K H' xs := by
  cases S with
  | lst a => exact h.imp (fun z => z.imp (fun z => s _ _ z rfl) fun ⟨o, z⟩ => ⟨o, s _ _ z rfl⟩) id
  | tup a => exact h.imp (fun z => z.imp (fun z => s _ _ z rfl) fun ⟨o, z⟩ => ⟨o, s _ _ z rfl⟩) id
  | str x => exact h
theorem it_src {tg e : Expr} {js : List Nat} {q : Bool} {m : M (List D × Gd)} (F : Fit X c) (h : SrcOk X c e js q m) : ItOk X c tg e js q m := by
  obtain ⟨te, p1, t1⟩ := h
  refine ⟨_, pi_src p1, ?_⟩
  rw [F.K]
  intro O U σ H ρ Q st h
  refine t1 O U σ H ρ _ st ?_
  cases e : m ρ with
  | ok p ρ' =>
    rw [e] at h
    intro v H' st' k s ⟨S, e1, gS, ⟨xs, hs⟩, r⟩
    exact ⟨S, xs, e1, hs, h _ H' st' k s ⟨gS, fun O2 U2 => src_its S fun H2 g => r O2 U2 H2 g⟩⟩
  | exc x ρ' => rw [e] at h; exact h
  | bad => rw [e] at h; exact h.elim
def enumD (ds : List D) : List D := ds.mapIdx fun i d => .tuple [.int (i : Nat), d]
def M.enum (m : M (List D × Gd)) : M (List D × Gd) := m.bind fun p => M.pure (enumD p.1, p.2)
theorem rp_pair {K : Fr} {A : AS} {H : Hp} {T : Addr} {x y : V} {d f : D} (hT : H T = none) (r1 : Rp K A H x d) (r2 : Rp K A H y f) : Rp K A (upd H T (.tup [x, y])) (.ref T) (.tuple [d, f]) := by
  have sm := same_new (o := .tup [x, y]) hT
  exact .tup (.inl upd_same) (.cons (r1.mono fun b o e _ _ => sm b o e) (.cons (r2.mono fun b o e _ _ => sm b o e) .nil))
theorem it_enum {elts : List Expr} {kk : Nat} {tpos p : Pos} {x : Str} {e : Expr} {js : List Nat} {q : Bool} {m : M (List D × Gd)} (F : Fit X c) (h : SrcOk X c e js q m) (hx : x = "enumerate") (hg : Gl X x) (hm : X.mg x = none) (ns : notStar e = true) :
    ItOk X c (.Tuple elts kk tpos) (.Call (.Name x p) [e] [] pos) js q (M.enum m) := by
  subst hx
  obtain ⟨te, p1, t1⟩ := h
  refine ⟨_, pi_enumS hg hm (pa_cons p1 pa_nil (star_cons ns)) (star_cons ns), ?_⟩
  rw [F.K]
  intro O U σ H ρ Q st h
  refine t1 O U σ H ρ _ st ?_
  have h : Res c (RelI c.K c.S js) O U σ H q ((m ρ).bind fun p => M.pure (enumD p.1, p.2)) Q := h
  cases e : m ρ with
  | ok p ρ' =>
    rw [e] at h
    intro v H' st' k s ⟨S, e1, gS, ⟨xs, hs⟩, r⟩
    refine ⟨S, xs, by rw [e1], hs, h _ H' st' k s ⟨gS, fun O2 U2 => ?_⟩⟩
    have ln : (enumD p.1).length = p.1.length := by simp [enumD]
    refine ⟨fun i H2 hi g => ?_, fun H2 g => ?_, fun i H2 x H3 hi g y => ?_⟩
    · have hi : i < p.1.length := by rw [← ln]; exact hi
      obtain ⟨xs, hs, r⟩ := r O2 U2 H2 g
      obtain ⟨v, q, _⟩ := r.get (i := i) (d := p.1[i]) (by simp [hi])
      exact ⟨xs, v, hs, q⟩
    · obtain ⟨xs, hs, r⟩ := r O2 U2 H2 g
      exact ⟨xs, hs, by rw [r.length]; exact ln.symm⟩
    · have hi : i < p.1.length := by rw [← ln]; exact hi
      obtain ⟨xs, hs, r⟩ := r O2 U2 H2 g
      obtain ⟨v, q, z⟩ := r.get (i := i) (d := p.1[i]) (by simp [hi])
      obtain ⟨T, x', ex, hT, eH, hy⟩ := y
      have := hy xs hs
      rw [q] at this; cases this
      subst ex eH
      exact ⟨same_new hT, .tuple [.int (i : Nat), p.1[i]], by simp [enumD, hi], rp_pair hT (.int _) z⟩
  | exc x ρ' => rw [e] at h; exact h
  | bad => rw [e] at h; exact h.elim
def zipD (as bs : List D) : List D := List.zipWith (fun a b => .tuple [a, b]) as bs
def M.zip (ma mb : M (List D × Gd)) : M (List D × Gd) := ma.bind fun p => mb.bind fun r => M.pure (zipD p.1 r.1, p.2 ++ r.2)
theorem it_zip {elts : List Expr} {kk : Nat} {tpos p : Pos} {x : Str} {e e2 : Expr} {js js2 : List Nat} {q q2 : Bool} {m m2 : M (List D × Gd)} (F : Fit X c) (h : SrcOk X c e js q m) (h2 : SrcOk X c e2 js2 q2 m2) (hs : (js.isEmpty || q2) = true) (hx : x = "zip") (hg : Gl X x) (hm : X.mg x = none) (ns : notStar e = true) (ns2 : notStar e2 = true) :
    ItOk X c (.Tuple elts kk tpos) (.Call (.Name x p) [e, e2] [] pos) (js ++ js2) (q && q2) (M.zip m m2) := by
  subst hx
  obtain ⟨te, p1, t1⟩ := h
  obtain ⟨te2, p2, t2⟩ := h2
  refine ⟨_, pi_zipS hg hm (pa_cons p1 (pa_cons p2 pa_nil (star_cons ns2)) (star_cons ns)) (star_cons ns) (noStars (es := [e2]) (by simp [ns2])), ?_⟩
  rw [F.K]
  refine Tr.bind (t2 := fun x σ H1 Q => te2 σ H1 fun y H2 => ∃ S1 S2 xs ys, [x, y] = [Src.v S1, Src.v S2] ∧ S1.has c.K H2 xs ∧ S2.has c.K H2 ys ∧ Q (ItZ c.K S1 S2) H2) ant_i t1 (fun p x O U σ H H1 ρ Q st k s rx h => ?_) rfl
  refine t2 O U σ H1 ρ _ st ?_
  have h : Res c (RelI c.K c.S (js ++ js2)) O U σ H1 q2 ((m2 ρ).bind fun r => M.pure (zipD p.1 r.1, p.2 ++ r.2)) Q := h
  obtain ⟨S1, e1, g1, ⟨xs, hs1⟩, r1⟩ := rx
  cases e : m2 ρ with
  | ok p' ρ' =>
    rw [e] at h
    intro y H2 st2 k2 s2 ⟨S2, e2, g2, ⟨ys, hs2⟩, r2⟩
    have dm := Dm.of k2 st2.domU
    have has1 : ∃ xs, S1.has c.K H2 xs := by
      rcases Bool.or_eq_true_iff.mp hs with z | z
      · have z : js = [] := by simpa using z
        have : p.2 = [] := by
          cases e : p.2 with
          | nil => rfl
          | cons q r =>
            have := (g1 q (by rw [e]; simp)).2
            rw [z] at this; cases this
        obtain ⟨xs, hh, _⟩ := r1 O U H2 ⟨k2, fun b z => .inl z, fun j ds hj => by rw [this] at hj; cases hj⟩
        exact ⟨xs, hh⟩
      · exact ⟨xs, S1.stay hs1 (s2 z)⟩
    obtain ⟨xs', hs1'⟩ := has1
    refine ⟨S1, S2, xs', ys, by rw [e1, e2], hs1', hs2, h _ H2 st2 k2 s2 ⟨fun q hq => (List.mem_append.mp hq).elim (fun z => ⟨(g1 q z).1, List.mem_append_left _ (g1 q z).2⟩) (fun z => ⟨(g2 q z).1, List.mem_append_right _ (g2 q z).2⟩), fun O2 U2 => ?_⟩⟩
    have both : ∀ H3, Gh c.K O O2 U U2 H2 (p.2 ++ p'.2) H3 → ∃ xs ys, S1.has c.K H3 xs ∧ S2.has c.K H3 ys ∧ RpAll c.K (Av O2 U2) H3 xs p.1 ∧ RpAll c.K (Av O2 U2) H3 ys p'.1 := fun H3 g => by
      obtain ⟨xs, h1, z1⟩ := r1 O2 U2 H3 ((g.sub fun x hx => List.mem_append_left _ hx).from k2 dm)
      obtain ⟨ys, h2, z2⟩ := r2 O2 U2 H3 (g.sub fun x hx => List.mem_append_right _ hx)
      exact ⟨xs, ys, h1, h2, z1, z2⟩
    have ln : (zipD p.1 p'.1).length = min p.1.length p'.1.length := by simp [zipD]
    have two : ∀ {i : Nat}, i < (zipD p.1 p'.1).length → ∃ (h1 : i < p.1.length) (h2 : i < p'.1.length), (zipD p.1 p'.1)[i]? = some (.tuple [p.1[i], p'.1[i]]) := fun {i} hi => by
      rw [ln] at hi
      have h1 : i < p.1.length := by omega
      have h2 : i < p'.1.length := by omega
      exact ⟨h1, h2, by simp [zipD, List.getElem?_zipWith, h1, h2]⟩
    refine ⟨fun i H3 hi g => ?_, fun H3 g => ?_, fun i H3 x H4 hi g y => ?_⟩
    · obtain ⟨l1, l2, _⟩ := two hi
      obtain ⟨xs, ys, a1, a2, z1, z2⟩ := both H3 g
      obtain ⟨v, q, _⟩ := z1.get (i := i) (d := p.1[i]) (by simp [l1])
      obtain ⟨v2, q2, _⟩ := z2.get (i := i) (d := p'.1[i]) (by simp [l2])
      exact ⟨xs, ys, v, v2, a1, a2, q, q2⟩
    · obtain ⟨xs, ys, a1, a2, z1, z2⟩ := both H3 g
      have e1 := z1.length
      have e2 := z2.length
      exact ⟨xs, ys, a1, a2, by show (zipD p.1 p'.1).length ≤ _; omega, by show (zipD p.1 p'.1).length ≤ _; omega, by show (zipD p.1 p'.1).length = _ ∨ (zipD p.1 p'.1).length = _; omega⟩
    · obtain ⟨l1, l2, e3⟩ := two hi
      obtain ⟨xs, ys, a1, a2, z1, z2⟩ := both H3 g
      obtain ⟨v, q, w1⟩ := z1.get (i := i) (d := p.1[i]) (by simp [l1])
      obtain ⟨v2, q2, w2⟩ := z2.get (i := i) (d := p'.1[i]) (by simp [l2])
      obtain ⟨T, x', y', ex, hT, eH, hy1, hy2⟩ := y
      have := hy1 xs a1
      rw [q] at this; cases this
      have := hy2 ys a2
      rw [q2] at this; cases this
      subst ex eH
      exact ⟨same_new hT, _, e3, rp_pair hT w1 w2⟩
  | exc x ρ' => rw [e] at h; exact h
  | bad => rw [e] at h; exact h.elim
/-! ### range -/
def rgD (lo c : Int) (n : Nat) : List D := (List.range n).map fun (i : Nat) => .int (lo + i * c)
def smallI (i : Int) : Bool := decide (-(2 ^ 40) ≤ i ∧ i < 2 ^ 40)
/-- how many: lo, lo + c, .. below hi -/
def cnt (lo hi c : Int) : Nat := if lo < hi then ((hi - lo - 1) / c + 1).toNat else 0
def dRg1 : List D → Option (List D × Gd)
  | [.int j] => if smallI j = true then some (rgD 0 1 j.toNat, []) else none
  | _ => none
def dRg2 : List D → Option (List D × Gd)
  | [.int i, .int j] => if smallI i = true ∧ smallI j = true then some (rgD i 1 (j - i).toNat, []) else none
  | _ => none
def dRg3 : List D → Option (List D × Gd)
  | [.int i, .int j, .int c] => if smallI i = true ∧ smallI j = true ∧ 0 < c ∧ c < 1000000 then some (rgD i c (cnt i j c), []) else none
  | _ => none
theorem small_step {a b c : Int} (ha : smallI a = true) (hb : smallI b = true) (hc : 0 < c) (hc' : c < 1000000) : RgC a b c (cnt a b c) := by
  have ha : -(2 ^ 40) ≤ a ∧ a < 2 ^ 40 := of_decide_eq_true ha
  have hb : -(2 ^ 40) ≤ b ∧ b < 2 ^ 40 := of_decide_eq_true hb
  have h1 : 0 ≤ (b - a - 1) / c ∨ ¬ a < b := by
    by_cases h : a < b
    · exact .inl (Int.ediv_nonneg (by omega) (by omega))
    · exact .inr h
  have h2 : a < b → (b - a - 1) / c ≤ b - a - 1 := fun h => Int.ediv_le_self _ (by omega)
  have sz : Builtin.Range.rangeSize a b c = (cnt a b c : Nat) := by
    unfold Builtin.Range.rangeSize cnt
    rw [if_pos (by omega : c > 0)]
    split
    · rename_i h
      rcases h1 with h1 | h1
      · omega
      · exact absurd h h1
    · rfl
  refine ⟨by omega, by omega, ?_, sz⟩
  unfold Builtin.Range.small
  unfold Builtin.Range.rangeSize
  rw [if_pos (by omega : c > 0)]
  simp only [Builtin.Range.rangeFitsLong, Bool.and_eq_true, Bool.or_eq_true, decide_eq_true_eq, beq_iff_eq, if_pos (by omega : c > 0)]
  split
  · rename_i h
    have := h2 h
    rcases h1 with h1 | h1
    · refine ⟨⟨⟨⟨?_, ?_⟩, ?_⟩, ?_⟩, .inr ?_⟩ <;> omega
    · exact absurd h h1
  · refine ⟨⟨⟨⟨?_, ?_⟩, ?_⟩, ?_⟩, .inl ?_⟩ <;> omega
theorem walk_rg {K : Fr} {A : AS} {G : Hp → Prop} {J : It} {lo c : Int} {n : Nat} (w : Walk J n (fun _ => True) (fun i H x H' => H' = H ∧ x = .int (lo + (i : Nat) * c))) : Walk J (rgD lo c n).length G (fun i H2 x H3 => L2.Same H2 H3 ∧ ∃ d, (rgD lo c n)[i]? = some d ∧ Rp K A H3 x d) := by
  have ln : (rgD lo c n).length = n := by simp [rgD]
  rw [ln]
  refine w.mono (fun _ _ => trivial) fun i H x H' hi _ ⟨e1, e2⟩ => ?_
  subst e1 e2
  exact ⟨L2.Same.refl _, .int (lo + i * c), by simp [rgD, hi], .int _⟩
theorem tr_rg {ls : List Lv} {q : Bool} {m : M (List D)} {f : List D → Option (List D × Gd)} {r : List V → Hp → (It → Hp → Prop) → Prop} {ta : TA} (t : Tr c (RelA c.K c.P ls) q ta m) (ht : ls.all (·.t) = true)
    (hr : ∀ O U xs ds p H R, AllT c.K (Av O U) H xs ds → f ds = some p → (∀ J, RelI c.K c.S [] O U H H (fun _ => False) J p → R J H) → r xs H R) :
    Tr c (RelI c.K c.S []) q (fun σ H R => ta σ H fun xs H1 => r xs H1 R) (m.bind fun ds => M.lift (f ds)) := by
  have := Tr.bind (q2 := true) (R := RelI c.K c.S []) (f := fun ds => M.lift (f ds)) (t2 := fun xs σ H1 Q => r xs H1 Q) ant_i t (fun ds xs O U σ H H1 ρ Q st k s rx h => by
    unfold M.lift at h
    cases eg : f ds with
    | none => simp only [eg] at h; exact h.elim
    | some z =>
      simp only [eg] at h
      exact hr O U xs ds z H1 _ (rx.top ht) eg fun J hJ => h J H1 st Keep.refl (fun _ => Same.refl H1) hJ) rfl
  rw [Bool.and_true] at this
  exact this
theorem AllT.three {K : Fr} {A : AS} {H : Hp} {xs : List V} {d f g : D} (h : AllT K A H xs [d, f, g]) : ∃ x y z, xs = [x, y, z] ∧ RpT K A H x d ∧ RpT K A H y f ∧ RpT K A H z g := by
  cases h with
  | cons h r => cases r with
    | cons h' r => cases r with
      | cons h'' r => cases r; exact ⟨_, _, _, rfl, h, h', h''⟩
theorem it_rg1 {tg : Expr} {x : Str} {p : Pos} {e : Expr} {ls : List Lv} {q : Bool} {m : M (List D)} (h : AOk X c [e] ls q m) (ht : ls.all (·.t) = true) (hx : x = "range") (hg : Gl X x) (hm : X.mg x = none) (ns : notStar e = true) :
    ItOk X c tg (.Call (.Name x p) [e] [] pos) [] q (m.bind fun ds => M.lift (dRg1 ds)) := by
  subst hx
  obtain ⟨ta, pa, t⟩ := h
  refine ⟨_, pi_range1 hg hm pa (star_cons ns), tr_rg t ht fun O U xs ds p H R r e k => ?_⟩
  unfold dRg1 at e
  split at e
  · split at e
    · rename_i j hj
      cases e
      obtain ⟨v, rfl, r1⟩ := r.one
      have hj : -(2 ^ 40) ≤ j ∧ j < 2 ^ 40 := of_decide_eq_true hj
      refine ⟨j, by rw [r1.eInt], by omega, by omega, k _ ⟨nofun, fun O2 U2 => walk_rg (walk_range.mono (fun _ z => z) fun i H x H' _ _ ⟨e1, e2⟩ => ⟨e1, by rw [e2, Int.mul_one]⟩)⟩⟩
    · cases e
  · cases e
theorem it_rg2 {tg : Expr} {x : Str} {p : Pos} {e e2 : Expr} {ls : List Lv} {q : Bool} {m : M (List D)} (h : AOk X c [e, e2] ls q m) (ht : ls.all (·.t) = true) (hx : x = "range") (hg : Gl X x) (hm : X.mg x = none) (ns : notStar e = true) (ns2 : notStar e2 = true) :
    ItOk X c tg (.Call (.Name x p) [e, e2] [] pos) [] q (m.bind fun ds => M.lift (dRg2 ds)) := by
  subst hx
  obtain ⟨ta, pa, t⟩ := h
  have s2 : starEach [e2] X.env = [(false, eval e2 X.env)] := star_cons ns2
  refine ⟨_, pi_range2 hg hm pa (by rw [star_cons ns, s2]) s2, tr_rg t ht fun O U xs ds p H R r e k => ?_⟩
  unfold dRg2 at e
  split at e
  · split at e
    · rename_i i j hj
      cases e
      obtain ⟨v, w, rfl, r1, r2⟩ := r.two
      have h1 : -(2 ^ 40) ≤ i ∧ i < 2 ^ 40 := of_decide_eq_true hj.1
      have h2 : -(2 ^ 40) ≤ j ∧ j < 2 ^ 40 := of_decide_eq_true hj.2
      refine ⟨i, j, by rw [r1.eInt, r2.eInt], by omega, k _ ⟨nofun, fun O2 U2 => walk_rg (walk_range.mono (fun _ z => z) fun i H x H' _ _ ⟨e1, e2⟩ => ⟨e1, by rw [e2, Int.mul_one]⟩)⟩⟩
    · cases e
  · cases e
theorem it_rg3 {tg : Expr} {x : Str} {p : Pos} {e e2 e3 : Expr} {ls : List Lv} {q : Bool} {m : M (List D)} (h : AOk X c [e, e2, e3] ls q m) (ht : ls.all (·.t) = true) (hx : x = "range") (hg : Gl X x) (hm : X.mg x = none) (ns : notStar e = true) (ns2 : [e2, e3].all notStar = true) :
    ItOk X c tg (.Call (.Name x p) [e, e2, e3] [] pos) [] q (m.bind fun ds => M.lift (dRg3 ds)) := by
  subst hx
  obtain ⟨ta, pa, t⟩ := h
  refine ⟨_, pi_range3 hg hm pa (star_cons ns) (noStars ns2), tr_rg t ht fun O U xs ds p H R r e k => ?_⟩
  unfold dRg3 at e
  split at e
  · split at e
    · rename_i i j c hj
      cases e
      obtain ⟨v, w, u, rfl, r1, r2, r3⟩ := r.three
      exact ⟨i, j, c, cnt i j c, by rw [r1.eInt, r2.eInt, r3.eInt], small_step hj.1 hj.2.1 hj.2.2.1 hj.2.2.2, k _ ⟨nofun, fun O2 U2 => walk_rg walk_rangeC⟩⟩
    · cases e
  · cases e
end
end Cr
end
section
set_option Elab.async false
set_option linter.all false
set_option maxRecDepth 100000
set_option maxHeartbeats 4000000
namespace Cr
open PySem PySem.Spec L2
set_option autoImplicit false
mutual
def eqD : D → D → Bool
  | .none, .none => true
  | .bool a, .bool b => a == b
  | .int a, .int b => a == b
  | .str a, .str b => a == b
  | .list a, .list b => eqDs a b
  | .tuple a, .tuple b => eqDs a b
  | _, _ => false
def eqDs : List D → List D → Bool
  | [], [] => true
  | a :: r, b :: s => eqD a b && eqDs r s
  | _, _ => false
end
mutual
theorem eqD_eq : ∀ {a b : D}, eqD a b = true → a = b
  | .none, b, h => by cases b <;> first | rfl | (simp [eqD] at h; done)
  | .bool _, b, h => by cases b <;> first | (simp [eqD] at h; done) | (simp [eqD] at h; rw [h])
  | .int _, b, h => by cases b <;> first | (simp [eqD] at h; done) | (simp [eqD] at h; rw [h])
  | .str _, b, h => by cases b <;> first | (simp [eqD] at h; done) | (simp [eqD] at h; rw [h])
  | .list _, b, h => by cases b <;> first | (simp [eqD] at h; done) | (simp only [eqD] at h; rw [eqDs_eq h])
  | .tuple _, b, h => by cases b <;> first | (simp [eqD] at h; done) | (simp only [eqD] at h; rw [eqDs_eq h])
  | .dict _, b, h => by cases b <;> (simp [eqD] at h)
theorem eqDs_eq : ∀ {a b : List D}, eqDs a b = true → a = b
  | [], [], _ => rfl
  | [], _ :: _, h => by simp [eqDs] at h
  | _ :: _, [], h => by simp [eqDs] at h
  | a :: r, b :: s, h => by
    have h := Bool.and_eq_true_iff.mp (by simpa only [eqDs] using h)
    rw [eqD_eq h.1, eqDs_eq h.2]
end
mutual
def noDct : D → Bool
  | .dict _ => false
  | .list ds => noDcts ds
  | .tuple ds => noDcts ds
  | _ => true
def noDcts : List D → Bool
  | [] => true
  | d :: ds => noDct d && noDcts ds
end
mutual
theorem eqD_refl : ∀ {a : D}, noDct a = true → eqD a a = true
  | .none, _ => rfl
  | .bool b, _ => by simp [eqD]
  | .int b, _ => by simp [eqD]
  | .str b, _ => by simp [eqD]
  | .list ds, h => by simp only [eqD]; exact eqDs_refl (by simpa only [noDct] using h)
  | .tuple ds, h => by simp only [eqD]; exact eqDs_refl (by simpa only [noDct] using h)
  | .dict ds, h => by simp [noDct] at h
theorem eqDs_refl : ∀ {a : List D}, noDcts a = true → eqDs a a = true
  | [], _ => rfl
  | d :: ds, h => by
    have h := Bool.and_eq_true_iff.mp (by simpa only [noDcts] using h)
    simp only [eqDs, eqD_refl h.1, eqDs_refl h.2]; rfl
end
def chkG (gs : Gd) (ρ : Ev) : Bool := gs.all fun p => match ρ[p.1]? with
  | some (some d) => eqD d p.2
  | _ => false
theorem Gh.of_chk {K : Fr} {S : Nat → Bool} {O O2 : AS} {U U2 : Nat → Option Addr} {σ : L2.St} {H1 H2 : Hp} {ρ : Ev} {gs : Gd} (st : Sto K S O2 U2 σ H2 ρ) (k : Keep U H1 H2) (ch : ∀ b, Av O2 U2 b → Av O U b ∨ ¬ Dn H1 b)
    (hc : chkG gs ρ = true) (hS : ∀ p ∈ gs, S p.1 = true ∧ U2 p.1 = U p.1) : Gh K O O2 U U2 H1 gs H2 := by
  refine ⟨k, ch, fun j ds hj => ?_⟩
  have q := List.all_eq_true.mp hc _ hj
  split at q
  · rename_i d e
    have := eqD_eq q
    subst this
    obtain ⟨a, ds', vs, u, _, e2, e3, r⟩ := st.own j _ e (hS _ hj).1
    cases e2
    exact ⟨a, vs, by rw [← (hS _ hj).2]; exact u, u, e3, r⟩
  · cases q
/-! ### a list that is held changes -/
theorem sto_put {K : Fr} {S : Nat → Bool} {O : AS} {U : Nat → Option Addr} {σ : L2.St} {H : Hp} {ρ : Ev} {j : Nat} {a : Addr} {vs : List V} {ds : List D} {xs : List V} {d0 : D} (st : Sto K S O U σ H ρ) (lv : ρ[j]? = some (some d0)) (u : U j = some a) (e0 : H a = some (.lst xs)) (r : RpAll K (Av O U) H vs ds) :
    Sto K S O U σ (upd H a (.lst vs)) (ρ.set j (some (.list ds))) ∧ Keep U H (upd H a (.lst vs)) := by
  have kk : Keep U H (upd H a (.lst vs)) := fun b o e t n => by
    rcases n with n | n
    · rw [upd_ne (fun z => n j (by rw [z]; exact u))]; exact e
    · rw [upd_ne (fun z => by subst z; rw [e0] at e; cases e; cases n)]; exact e
  have dm : ∀ b, Dn H b → Dn (upd H a (.lst vs)) b := fun b ⟨o, hb, n⟩ => by
    by_cases z : b = a
    · subst z; exact .of upd_same
    · exact ⟨o, by rw [upd_ne z]; exact hb, n⟩
  refine ⟨⟨by rw [List.length_set]; exact st.len, fun i d e n => ?_, fun i d e n => ?_, st.uS, st.out, st.inj, fun b z => dm b (st.domO b z), fun i b z => dm b (st.domU i b z), tabs_put st.tab e0⟩, kk⟩
  · by_cases z : j = i
    · subst z; rw [st.uS j a u] at n; cases n
    · rw [List.getElem?_set_ne z] at e
      obtain ⟨v, e1, q⟩ := st.dat i d e n
      exact ⟨v, e1, kk.rp q⟩
  · by_cases z : j = i
    · subst z
      have hl : j < ρ.length := by
        have := (List.getElem?_eq_some_iff.mp e).1
        rwa [List.length_set] at this
      rw [List.getElem?_set_self hl] at e
      cases e
      obtain ⟨b, _, _, ub, e1, _⟩ := st.own j _ lv n
      rw [u] at ub; cases ub
      exact ⟨a, ds, vs, u, e1, rfl, upd_same, kk.rpAll r⟩
    · rw [List.getElem?_set_ne z] at e
      obtain ⟨b, ds', vs', ub, e1, e2, e3, q⟩ := st.own i d e n
      refine ⟨b, ds', vs', ub, e1, e2, ?_, kk.rpAll q⟩
      rw [upd_ne (fun w => z (st.inj j i b (by rw [w]; exact u) ub))]; exact e3
section
variable {X : Cx} {c : Cn} {pos : Pos}
/-- a method of a held list: by its items and the arguments; what it gives, the items behind -/
def MtO (X : Cx) (c : Cn) (id : String) (pu : Bool) (g : List D → List D → Option (D × List D)) : Prop :=
  ∃ r, MtR X id r ∧ ∀ (O : AS) (U : Nat → Option Addr) (H : Hp) (a : Addr) (vs : List V) (ds : List D) (xs : List V) (es : List D) (d : D) (ds' : List D) (Q : VK), H a = some (.lst vs) → RpAll c.K (Av O U) H vs ds → AllT c.K (Av O U) H xs es → (pu = true → RpAll c.K (Av O U) H xs es) → g ds es = some (d, ds') →
    (∀ v vs', RpAll c.K (Av O U) H vs' ds' → Rp c.K (Av O U) H v d → (∀ fs, d ≠ .list fs) → Q v (upd H a (.lst vs'))) → r (.ref a) xs H Q
def M.meth (j : Nat) (g : List D → List D → Option (D × List D)) (es : List D) : M D := fun ρ => match ρ[j]? with
  | some (some (.list ds)) => match g ds es with
    | some (d, ds') => .ok d (ρ.set j (some (.list ds')))
    | none => .bad
  | _ => .bad
theorem meth_tr {j : Nat} {pu : Bool} {g : List D → List D → Option (D × List D)} {id : String} {r : V → List V → Hp → VK → Prop} (hr : ∀ (O : AS) (U : Nat → Option Addr) (H : Hp) (a : Addr) (vs : List V) (ds : List D) (xs : List V) (es : List D) (d : D) (ds' : List D) (Q : VK), H a = some (.lst vs) → RpAll c.K (Av O U) H vs ds → AllT c.K (Av O U) H xs es → (pu = true → RpAll c.K (Av O U) H xs es) → g ds es = some (d, ds') →
    (∀ v vs', RpAll c.K (Av O U) H vs' ds' → Rp c.K (Av O U) H v d → (∀ fs, d ≠ .list fs) → Q v (upd H a (.lst vs'))) → r (.ref a) xs H Q) (hS : c.S j = true)
    {O : AS} {U : Nat → Option Addr} {σ : L2.St} {H : Hp} {ρ : Ev} {a : Addr} {xs : List V} {es : List D} {Q : VK} (st : Sto c.K c.S O U σ H ρ) (u : U j = some a) (rx : AllT c.K (Av O U) H xs es) (rp : pu = true → RpAll c.K (Av O U) H xs es) (h : Res c (RpL c.K c.P .new) O U σ H false (M.meth j g es ρ) Q) : r (.ref a) xs H Q := by
  unfold M.meth at h
  split at h
  · rename_i ds e
    obtain ⟨b, ds', vs, ub, e1, e2, e3, q⟩ := st.own j _ e hS
    rw [u] at ub; cases ub
    cases e2
    cases eg : g ds es with
    | none => rw [eg] at h; exact h.elim
    | some p =>
      obtain ⟨d, ds'⟩ := p
      simp only [eg] at h
      refine hr O U H a vs ds xs es d ds' Q e3 q rx rp eg fun v vs' r1 r2 nl => ?_
      obtain ⟨st', k⟩ := sto_put st e u e3 r1
      exact h v _ st' k nofun (rpl_scal (k.rp r2) nl)
  · exact h.elim
theorem fewOk {es : List Expr} {env : Env} (h : es.all notStar = true) (hl : es.length < 30) : ((backTo pos (starEach es env)).all (fun x => !x.1) && (backToKw pos (keywordEach [] env)).all (fun x => x.1.isSome)
      && decide (es.length + ([] : List Keyword).length + (if ([] : List Keyword).isEmpty then 0 else 1) < 30)) = true := by
  have e1 : (backTo pos (starEach es env)).all (fun x => !x.1) = true := by
    have := noStars (pos := pos) (env := env) h
    rw [List.all_eq_true]
    intro x hx
    cases e : x.1
    · rfl
    · have : (backTo pos (starEach es env)).any (·.1) = true := List.any_eq_true.mpr ⟨x, hx, e⟩
      rw [noStars h] at this; cases this
  rw [e1]
  show (true && true && decide (es.length + 0 + 0 < 30)) = true
  simpa using hl
/-- no argument -/
theorem ev_mt0 (F : Fit X c) {pu : Bool} {i : Nat} {x name : Str} {id : String} {p apos : Pos} {g : List D → List D → Option (D × List D)} (h : MtO X c id pu g) (pa : PlainAttrs "list") (slot : Slot "list" name id) (hty : typeOf (.builtin id) = pure (.type "method_descriptor"))
    (hN : X.N[i]? = some x) (hv : Vis X.env.scope x) (hd : (x == ("__debug__" : Str)) = false) (hcd : (x == ("__classdict__" : Str)) = false) (hS : c.S i = true) (hl : (apos.endLine == pos.line) = true) :
    EvOk X c (.Call (.Attribute (.Name x p) name apos) [] [] pos) .new false ((M.get i).bind fun _ => M.meth i g []) := by
  obtain ⟨r, hm, hr⟩ := h
  refine ⟨_, pe_bm0 pa slot hty hm (pe_var hN hv hd hcd) rfl hl, fun O U σ H ρ Q st h => ?_⟩
  have h : Res c (RpL c.K c.P .new) O U σ H false ((M.get i ρ).bind fun _ => M.meth i g []) Q := h
  rcases get_cases i ρ with ⟨d, e, z⟩ | z
  · rw [z] at h
    obtain ⟨a, ds, vs, u, e1, e2, e3, q⟩ := st.own i d e hS
    exact ⟨.ref a, e1, .inl ⟨rfl, vs, SqL.of e3⟩, meth_tr (id := id) hr hS st u .nil (fun _ => .nil) h⟩
  · rw [z] at h; exact h.elim
theorem ev_mt (F : Fit X c) {pu : Bool} {i : Nat} {x name : Str} {id : String} {p apos : Pos} {g : List D → List D → Option (D × List D)} {e : Expr} {es : List Expr} {ls : List Lv} {q : Bool} {m : M (List D)} (h : MtO X c id pu g) (pa : PlainAttrs "list") (slot : Slot "list" name id) (hty : typeOf (.builtin id) = pure (.type "method_descriptor"))
    (hN : X.N[i]? = some x) (hv : Vis X.env.scope x) (hd : (x == ("__debug__" : Str)) = false) (hcd : (x == ("__classdict__" : Str)) = false) (hS : c.S i = true) (hl : (apos.endLine == pos.line) = true) (ha : AOk X c (e :: es) ls q m) (ht : ls.all (·.t) = true) (ns : (e :: es).all notStar = true) (few : (e :: es).length < 30) (hp : pu = true → ls.all (·.p) = true) :
    EvOk X c (.Call (.Attribute (.Name x p) name apos) (e :: es) [] pos) .new false ((M.get i).bind fun _ => m.bind fun ds => M.meth i g ds) := by
  obtain ⟨r, hm, hr⟩ := h
  obtain ⟨ta, pA, t⟩ := ha
  have n2 := ns
  rw [List.all_cons, Bool.and_eq_true] at n2
  refine ⟨_, pe_bm pa slot hty hm (pe_var hN hv hd hcd) pA rfl (fewOk ns few) hl (star_cons n2.1) (noStars n2.2), fun O U σ H ρ Q st h => ?_⟩
  have h : Res c (RpL c.K c.P .new) O U σ H false ((M.get i ρ).bind fun _ => m.bind fun ds => M.meth i g ds) Q := h
  rcases get_cases i ρ with ⟨d, e, z⟩ | z
  · rw [z] at h
    obtain ⟨a, ds, vs, u, e1, e2, e3, r⟩ := st.own i d e hS
    refine ⟨.ref a, e1, .inl ⟨rfl, vs, SqL.of e3⟩, ?_⟩
    refine t O U σ H ρ _ st ?_
    have h : Res c (RpL c.K c.P .new) O U σ H false ((m ρ).bind fun ds => M.meth i g ds) Q := h
    cases eb : m ρ with
    | exc x ρ1 => rw [eb] at h; exact h
    | bad => rw [eb] at h; exact h.elim
    | ok es ρ1 =>
      rw [eb] at h
      intro xs H2 st2 k2 s2 rs
      have h : Res c (RpL c.K c.P .new) O U σ H false (M.meth i g es ρ1) Q := h
      exact meth_tr (id := id) hr hS st2 u (rs.top ht) (fun z => rs.pure (hp z)) (Res.at (q := false) (q1 := false) ant_rpl st2 k2 nofun h)
  · rw [z] at h; exact h.elim
def gApp (ds es : List D) : Option (D × List D) := match es with
  | [e] => if ds.length < sizeLine then some (.none, ds ++ [e]) else none
  | _ => none
def gExt (ds es : List D) : Option (D × List D) := match es with
  | [.list fs] => if ds.length + fs.length ≤ sizeLine then some (.none, ds ++ fs) else none
  | _ => none
def gPop (ds es : List D) : Option (D × List D) := match es with
  | [] => match ds[ds.length - 1]? with
    | some (.list _) => none
    | some d => some (d, ds.dropLast)
    | none => none
  | _ => none
theorem AllT.nil' {K : Fr} {A : AS} {H : Hp} {xs : List V} (h : AllT K A H xs []) : xs = [] := by cases h; rfl
theorem RpAll.one {K : Fr} {A : AS} {H : Hp} {xs : List V} {d : D} (h : RpAll K A H xs [d]) : ∃ x, xs = [x] ∧ Rp K A H x d := by
  cases h with
  | cons h r => cases r; exact ⟨_, rfl, h⟩
theorem RpAll.dropLast {K : Fr} {A : AS} {H : Hp} {vs : List V} {ds : List D} (r : RpAll K A H vs ds) : RpAll K A H vs.dropLast ds.dropLast := by
  rw [List.dropLast_eq_take, List.dropLast_eq_take, r.length]
  exact r.take _
theorem mo_app : MtO X c "list.append" true gApp := ⟨_, mt_append, fun O U H a vs ds xs es d ds' Q h r rx rp e k => by
  unfold gApp at e
  split at e
  · split at e
    · rename_i f hz
      cases e
      obtain ⟨x, rfl, r1⟩ := (rp rfl).one
      exact ⟨a, vs, x, rfl, rfl, h, by rw [r.length]; exact hz, k _ _ (r.snoc r1) .non nofun⟩
    · cases e
  · cases e⟩
theorem mo_ext : MtO X c "list.extend" false gExt := ⟨_, mt_extend, fun O U H a vs ds xs es d ds' Q h r rx rp e k => by
  unfold gExt at e
  split at e
  · split at e
    · rename_i fs hz
      cases e
      obtain ⟨x, rfl, r1⟩ := rx.one
      obtain ⟨b, ws, rfl, e2, r2⟩ := r1.eLst
      exact ⟨a, b, vs, ws, rfl, rfl, h, e2, by rw [r.length, r2.length]; exact hz, k _ _ (r.append r2) .non nofun⟩
    · cases e
  · cases e⟩
theorem mo_pop : MtO X c "list.pop" false gPop := ⟨_, mt_pop, fun O U H a vs ds xs es d ds' Q h r rx rp e k => by
  unfold gPop at e
  split at e
  · split at e
    · cases e
    · rename_i f hz hf
      cases e
      have := rx.nil'
      subst this
      obtain ⟨y, e1, r1⟩ := r.get hf
      exact ⟨a, vs, y, rfl, rfl, h, by rw [r.length]; exact e1, k _ _ r.dropLast r1 fun fs e => by subst e; exact hz _ rfl⟩
    · cases e
  · cases e⟩
/-! ### methods that change nothing -/
def MtP (X : Cx) (c : Cn) (T id : String) (g : D → List D → Option D) (l : Lv) : Prop := ∃ r, MtR X id r ∧ ∀ O U σ H ρ x d xs ds z Q, Sto c.K c.S O U σ H ρ → RpT c.K (Av O U) H x d → AllT c.K (Av O U) H xs ds → g d ds = some z →
  (∀ v H', Sto c.K c.S O U σ H' ρ → Same H H' → RpL c.K c.P l O U H H' (StT c U σ H' ρ) v z → Q v H') → r x xs H Q
def tyD (T : String) : D → Bool
  | .str _ => T == "str"
  | .list _ => T == "list"
  | _ => false
def dMt (T : String) (g : D → List D → Option D) (d : D) (ds : List D) : Option D := if tyD T d = true then g d ds else none
theorem tyV_of {K : Fr} {A : AS} {H : Hp} {v : V} {d : D} {T : String} (r : Rp K A H v d) (h : tyD T d = true) : tyV K T v H := by
  cases r <;> first | (cases h; done) | skip
  · exact beq_iff_eq.mp h
  · rename_i h' n r
    exact .inl ⟨beq_iff_eq.mp h, _, SqL.of h'⟩
theorem ev_pm (F : Fit X c) {o : Expr} {name : Str} {T id : String} {apos : Pos} {g : D → List D → Option D} {l lo : Lv} {qo : Bool} {mo : M D} {e : Expr} {es : List Expr} {ls : List Lv} {q : Bool} {m : M (List D)} (h : MtP X c T id g l) (pa : PlainAttrs T) (slot : Slot T name id) (hty : typeOf (.builtin id) = pure (.type "method_descriptor"))
    (ho : EvOk X c o lo qo mo) (ha : AOk X c (e :: es) ls q m) (hs : (lo.p || q) = true) (hlt : lo.t = true) (ht : ls.all (·.t) = true) (ns : (e :: es).all notStar = true) (few : (e :: es).length < 30) (hbase : attributeBase o name X.env (eval o X.env) = eval o X.env) (hl : (apos.endLine == pos.line) = true) :
    EvOk X c (.Call (.Attribute o name apos) (e :: es) [] pos) l (qo && q) (mo.bind fun d => (M.lift (if tyD T d = true then some d else none)).bind fun d => m.bind fun ds => M.lift (g d ds)) := by
  obtain ⟨r, hm, hr⟩ := h
  obtain ⟨to, p1, t1⟩ := ho
  obtain ⟨ta, p2, t2⟩ := ha
  have n2 := ns
  rw [List.all_cons, Bool.and_eq_true] at n2
  refine ⟨_, pe_bm pa slot hty hm p1 p2 hbase (fewOk ns few) hl (star_cons n2.1) (noStars n2.2), ?_⟩
  refine Tr.bind (t2 := fun x σ H1 Q => tyV X.K T x H1 ∧ ta σ H1 fun xs H2 => r x xs H2 Q) ant_rpl t1 (fun d x O U σ H H1 ρ Q st k s rx h => ?_) rfl
  have h : Res c (RpL c.K c.P l) O U σ H1 q (((M.lift (if tyD T d = true then some d else none)) ρ).bind fun d => m.bind fun ds => M.lift (g d ds)) Q := h
  unfold M.lift at h
  by_cases hT : tyD T d = true
  · rw [if_pos hT] at h
    refine ⟨F.K ▸ tyV_of rx.b hT, t2 O U σ H1 ρ _ st ?_⟩
    have h : Res c (RpL c.K c.P l) O U σ H1 q ((m ρ).bind fun ds => M.lift (g d ds)) Q := h
    cases eb : m ρ with
    | exc x ρ1 => rw [eb] at h; exact h
    | bad => rw [eb] at h; exact h.elim
    | ok ds ρ1 =>
      rw [eb] at h
      intro xs H2 st2 k2 s2 rs
      have h : Res c (RpL c.K c.P l) O U σ H1 q (M.lift (g d ds) ρ1) Q := h
      unfold M.lift at h
      cases eg : g d ds with
      | none => simp only [eg] at h; exact h.elim
      | some z =>
        simp only [eg] at h
        exact hr O U σ H2 ρ1 x d xs ds z Q st2 (rx.stayT hlt hs k2 s2) (rs.top ht) eg fun v H' st' s' rv => h v H' st' (k2.trans (Keep.of_same s')) (fun z => (s2 z).trans s') (ant_rpl O U H1 H2 H' _ v z k2 st2.domU rv)
  · rw [if_neg hT] at h; exact h.elim
def strsD : List D → Option (List Str)
  | [] => some []
  | .str b :: r => (strsD r).map (b :: ·)
  | _ => none
theorem strsD_eq : ∀ {ds : List D} {bs : List Str}, strsD ds = some bs → ds = bs.map .str
  | [], bs, h => by cases h; rfl
  | .str b :: r, bs, h => by
    simp only [strsD, Option.map_eq_some_iff] at h
    obtain ⟨cs, h1, rfl⟩ := h
    rw [strsD_eq h1]; rfl
def joinOk (a : Str) (ys : List Str) : Bool := decide ((ys.map (·.length)).sum + ys.length * a.length ≤ 16777216)
def dJoin : D → List D → Option D
  | .str a, [.list ds] => match strsD ds with
    | some ys => if joinOk a ys = true then some (.str (Txt.join a ys)) else none
    | none => none
  | .str a, [.tuple ds] => match strsD ds with
    | some ys => if joinOk a ys = true then some (.str (Txt.join a ys)) else none
    | none => none
  | _, _ => none
theorem mp_join (F : Fit X c) : MtP X c "str" "str.join" dJoin .new := ⟨_, (F.K ▸ mt_join : MtR X "str.join" (fun x xs H Q => ∃ a p, ∃ ys : List Str, x = .str a ∧ xs = [.ref p] ∧ (SqL c.K H p (ys.map V.str) ∨ SqT c.K H p (ys.map V.str)) ∧
    (ys.map (·.length)).sum + ys.length * a.length ≤ 16777216 ∧ Q (.str (Txt.join a ys)) H)), fun O U σ H ρ x d xs ds z Q st rx r e k => by
  unfold dJoin at e
  split at e
  · rename_i a ds
    split at e
    · rename_i ys h1
      split at e
      · rename_i hz
        cases e
        obtain ⟨y, rfl, r1⟩ := r.one
        obtain ⟨p, vs, rfl, h, r2⟩ := r1.eLst
        rw [strsD_eq h1] at r2
        rw [r2.strs] at h
        exact ⟨a, p, ys, rx.eStr, rfl, .inl (SqL.of h), of_decide_eq_true hz, k_sc st (.str _) nofun k⟩
      · cases e
    · cases e
  · rename_i a ds
    split at e
    · rename_i ys h1
      split at e
      · rename_i hz
        cases e
        obtain ⟨y, rfl, r1⟩ := r.one
        obtain ⟨p, vs, rfl, h, r2⟩ := r1.eTup
        rw [strsD_eq h1] at r2
        rw [r2.strs] at h
        exact ⟨a, p, ys, rx.eStr, rfl, .inr h, of_decide_eq_true hz, k_sc st (.str _) nofun k⟩
      · cases e
    · cases e
  · cases e⟩
def dSplit : D → List D → Option D
  | .str a, [.str b] => if (b.length == 0) = false ∧ a.length + 2 ≤ sizeLine then some (.list ((Txt.split a b).map .str)) else none
  | _, _ => none
theorem mp_split : MtP X c "str" "str.split" dSplit .new := ⟨_, mt_split, fun O U σ H ρ x d xs ds z Q st rx r e k => by
  unfold dSplit at e
  split at e
  · split at e
    · rename_i a b hz
      cases e
      obtain ⟨y, rfl, r1⟩ := r.one
      exact ⟨a, b, rx.eStr, by rw [r1.eStr], hz.1, hz.2, fun p hp => k_lst st hp (RpAll.ofStrs _) k⟩
    · cases e
  · cases e⟩
def dSindex (a b : Str) : Option Int := match Builtin.Str.occurrences a b 0 a.length 1 with
  | i :: _ => some (i : Nat)
  | [] => none
def dSix : D → List D → Option D
  | .str a, [.str b] => (dSindex a b).map .int
  | _, _ => none
theorem mp_sindex : MtP X c "str" "str.index" dSix .new := ⟨_, mt_sindex, fun O U σ H ρ x d xs ds z Q st rx r e k => by
  unfold dSix at e
  split at e
  · rename_i a b
    unfold dSindex at e
    split at e
    · rename_i i rest h
      cases e
      obtain ⟨y, rfl, r1⟩ := r.one
      exact ⟨a, b, i, rest, rx.eStr, by rw [r1.eStr], h, k_sc st (.int _) nofun k⟩
    · cases e
  · cases e⟩
/-- the first place -/
def ixD (d : D) : List D → Nat → Option Nat
  | [], _ => none
  | f :: r, n => if PyData.eqv f d = true then some n else ixD d r (n + 1)
theorem ixD_some {d : D} : ∀ {ds : List D} {n j : Nat}, ixD d ds n = some j → ∃ i z, j = n + i ∧ ds[i]? = some z ∧ PyData.eqv z d = true ∧ ∀ (m : Nat) (z' : D), m < i → ds[m]? = some z' → PyData.eqv z' d = false
  | [], _, _, h => by cases h
  | f :: r, n, j, h => by
    unfold ixD at h
    split at h
    · cases h
      exact ⟨0, f, rfl, rfl, by assumption, fun m z' hm => by omega⟩
    · rename_i hf
      obtain ⟨i, z, e, h1, h2, h3⟩ := ixD_some h
      refine ⟨i + 1, z, by omega, by simpa using h1, h2, fun m z' hm e' => ?_⟩
      cases m with
      | zero =>
        have : f = z' := by simpa using e'
        subst this
        simpa using hf
      | succ m => exact h3 m z' (by omega) (by simpa using e')
def dLix : D → List D → Option D
  | .list ds, [d] => if shp (.list ds) = true ∧ shp d = true then (ixD d ds 0).map fun j => .int (j : Nat) else none
  | _, _ => none
theorem mp_lindex (F : Fit X c) (hu : X.A.units + 65 < cLine) : MtP X c "list" "list.index" dLix .new := ⟨_, mt_indexD hu, fun O U σ H ρ x d xs ds z Q st rx r e k => by
  unfold dLix at e
  split at e
  · rename_i ds d
    split at e
    · rename_i hz
      cases ej : ixD d ds 0 with
      | none => rw [ej] at e; cases e
      | some j =>
        rw [ej] at e
        cases e
        obtain ⟨i, z, e1, h1, h2, h3⟩ := ixD_some ej
        obtain ⟨y, rfl, r1⟩ := r.one
        obtain ⟨a, vs, rfl, h, r2⟩ := rx.eLst
        rw [F.K]
        have e2 : j = i := by omega
        subst e2
        exact ⟨a, y, d, ds, j, z, rfl, rfl, rx.low.dp (shp_lay hz.1), r1.low.dp (shp_lay hz.2), hz.1, hz.2, h1, h2, h3, k_sc st (.int _) nofun k⟩
    · cases e
  · cases e⟩
/-! l.count(x) -/
def ctD (d : D) (ds : List D) : Nat := ds.countP fun y => PyData.eqv y d
def rCountD (K : Fr) : V → List V → Hp → VK → Prop := fun x xs H Q => ∃ (a : Addr) (y : V) (d : D) (ds : List D), x = V.ref a ∧ xs = [y] ∧ Dp K H (V.ref a) (.list ds) ∧ Dp K H y d ∧
  SeqAt.shaped (.list ds) = true ∧ SeqAt.shaped d = true ∧ Q (.int (ctD d ds : Nat)) H
theorem mt_countD (hu : X.A.units + 65 < cLine) : MtR X "list.count" (rCountD X.K) := by
  intro pins s σ H x xs v us Q I rx rxs h
  obtain ⟨a, y, d, ds, rfl, rfl, hl, hy, sl, sd, q⟩ := h
  cases rx
  cases rxs with
  | cons ry rt =>
    rename_i uy ut
    cases rt
    obtain ⟨bs, r1⟩ := Dp.reads I d y uy hy ry
    have hxs : PyData.canLayAll0 ds = true := SeqAt.canLay_of_shaped sl
    have hroom : X.A.units + 1 + min (PyData.depthAll ds) d.depth < cLine := PyProof.Rows.room_in_shaped sd hu
    cases hl with
    | lst hs ha =>
      obtain ⟨its, rv, ⟨⟨cls, dd, data, sls⟩, n, ho, hc, hdn, hdt⟩, hlen⟩ := I.list hs
      simp only at hc hdt
      subst hc hdt
      obtain ⟨as, h4⟩ := Dp.readsAll I ds _ its ha rv
      have hmap : its.map (SeqAt.readOf s.heap) = ds := SeqAt.readsAll_map ds its as hxs h4
      have e : its.toArray.toList.countP (fun u => PyData.eqv (SeqAt.readOf s.heap u) d) = ctD d ds := by
        unfold ctD
        rw [← hmap, List.countP_map]
        rfl
      refine call_meets PySem.F.slot_list_count ⟨_, ho, rfl⟩ PySem.F.entry_list_count (PySem.F.args_list_count_2 _ _)
        (SeqAt.list_countAt a its.toArray n dd sls uy (fun u => PyData.eqv (SeqAt.readOf s.heap u) d)) ⟨ho, SeqAt.items_eqAt (vs := its.toArray) (show ReadsAll s.heap its.toArray.toList ds as from h4) r1 hxs (SeqAt.canLay_of_shaped sd) hroom, ?_⟩
      rw [e]
      exact ⟨.int (ctD d ds : Nat), H, I.tok _, ⟨_, rfl⟩, q⟩
def dLct : D → List D → Option D
  | .list ds, [d] => if shp (.list ds) = true ∧ shp d = true then some (.int (ctD d ds : Nat)) else none
  | _, _ => none
theorem mp_lcount (F : Fit X c) (hu : X.A.units + 65 < cLine) : MtP X c "list" "list.count" dLct .new := ⟨_, mt_countD hu, fun O U σ H ρ x d xs ds z Q st rx r e k => by
  unfold dLct at e
  split at e
  · rename_i ds d
    split at e
    · rename_i hz
      cases e
      obtain ⟨y, rfl, r1⟩ := r.one
      obtain ⟨a, vs, rfl, h, r2⟩ := rx.eLst
      rw [F.K]
      exact ⟨a, y, d, ds, rfl, rfl, rx.low.dp (shp_lay hz.1), r1.low.dp (shp_lay hz.2), hz.1, hz.2, k_sc st (.int _) nofun k⟩
    · cases e
  · cases e⟩
end
end Cr
end
section
set_option Elab.async false
set_option linter.all false
set_option maxRecDepth 100000
set_option maxHeartbeats 4000000
namespace Cr
open PySem PySem.Spec L2
set_option autoImplicit false
/-! ### targets -/
theorem sto_set {K : Fr} {S : Nat → Bool} {O : AS} {U : Nat → Option Addr} {σ : L2.St} {H : Hp} {ρ : Ev} {i : Nat} {v : V} {d : D} (st : Sto K S O U σ H ρ) (hS : S i = false) (r : Rp K (Av O U) H v d) : Sto K S O U (σ.set i (some v)) H (ρ.set i (some d)) := by
  refine ⟨by rw [List.length_set, List.length_set]; exact st.len, fun j d' e n => ?_, fun j d' e n => ?_, st.uS, st.out, st.inj, st.domO, st.domU, st.tab⟩
  · by_cases z : i = j
    · subst z
      have hl : i < ρ.length := by
        have := (List.getElem?_eq_some_iff.mp e).1
        rwa [List.length_set] at this
      rw [List.getElem?_set_self hl] at e
      cases e
      exact ⟨v, by rw [List.getElem?_set_self (by rw [st.len]; exact hl)], r⟩
    · rw [List.getElem?_set_ne z] at e
      obtain ⟨w, e1, q⟩ := st.dat j d' e n
      exact ⟨w, by rw [List.getElem?_set_ne z]; exact e1, q⟩
  · have z : i ≠ j := fun z => by subst z; rw [hS] at n; cases n
    rw [List.getElem?_set_ne z] at e
    obtain ⟨a, ds, vs, u, e1, q⟩ := st.own j d' e n
    exact ⟨a, ds, vs, u, by rw [List.getElem?_set_ne z]; exact e1, q⟩
def TgR (c : Cn) (ts : List Nat) (O : AS) (U : Nat → Option Addr) (σ : L2.St) (H : Hp) (o : Oc Unit) (Q : L2.St → Hp → Prop) : Prop := match o with
  | .ok _ ρ' => ∀ σ', Sto c.K c.S O U σ' H ρ' → σ'.length = σ.length → (∀ i, i ∉ ts → σ'[i]? = σ[i]?) → Q σ' H
  | _ => False
structure TgOk (X : Cx) (c : Cn) (tg : Expr) (ts : List Nat) (g : D → M Unit) : Prop where
  ex : ∃ t, PG X tg t ∧ ∀ O U σ H ρ v d Q, Sto c.K c.S O U σ H ρ → Rp c.K (Av O U) H v d → TgR c ts O U σ H (g d ρ) Q → t v σ H Q
  ne : ∀ d ρ x ρ', g d ρ ≠ .exc x ρ'
structure TgsOk (X : Cx) (c : Cn) (tg : List Expr) (ts : List Nat) (g : List D → M Unit) : Prop where
  ex : ∃ t, PGs X tg t ∧ ∀ O U σ H ρ v d Q, Sto c.K c.S O U σ H ρ → RpAll c.K (Av O U) H v d → TgR c ts O U σ H (g d ρ) Q → t v σ H Q
  ne : ∀ d ρ x ρ', g d ρ ≠ .exc x ρ'
def M.setD (i : Nat) (d : D) : M Unit := fun ρ => .ok () (ρ.set i (some d))
def M.setNil : List D → M Unit
  | [] => M.pure ()
  | _ => M.bad
def M.setCons (g : D → M Unit) (u : List D → M Unit) : List D → M Unit
  | d :: ds => (g d).bind fun _ => u ds
  | [] => M.bad
def M.setTup (n : Nat) (u : List D → M Unit) : D → M Unit
  | .tuple ds => if ds.length = n then u ds else M.bad
  | _ => M.bad
section
variable {X : Cx} {c : Cn} {pos : Pos}
theorem tg_name {i : Nat} {x : Str} (hn : X.N.Nodup) (hN : X.N[i]? = some x) (hx : Loc X.env.scope x) (hf : X.fn x = true ∨ X.env.scope.names.lookup x = some .local) (hS : c.S i = false) : TgOk X c (.Name x pos) [i] (M.setD i) :=
  ⟨⟨_, pg_name hn hN hx hf, fun O U σ H ρ v d Q st r h => h _ (sto_set st hS r) (by rw [List.length_set]) fun j hj => by rw [List.getElem?_set_ne (fun z => hj (by simp [z]))]⟩, nofun⟩
theorem tgs_nil : TgsOk X c [] [] M.setNil := ⟨⟨_, pgs_nil, fun O U σ H ρ v d Q st r h => by
  cases r with
  | nil => exact ⟨rfl, h σ st rfl fun _ _ => rfl⟩
  | cons _ _ => exact h.elim⟩, fun d ρ x ρ' h => by cases d <;> cases h⟩
def asgPlain : Expr → Bool
  | .Starred _ _ => false
  | _ => true
theorem assignEach_cons {e : Expr} {es : List Expr} {env : Env} (h : asgPlain e = true) : assignEach (e :: es) env = (false, assign e env) :: assignEach es env := by
  cases e <;> first | rfl | (cases h; done)
theorem tgs_cons {e : Expr} {es : List Expr} {ts us : List Nat} {g : D → M Unit} {u : List D → M Unit} (h1 : TgOk X c e ts g) (h2 : TgsOk X c es us u) (hp : asgPlain e = true) : TgsOk X c (e :: es) (ts ++ us) (M.setCons g u) := by
  obtain ⟨⟨t1, p1, r1⟩, n1⟩ := h1
  obtain ⟨⟨t2, p2, r2⟩, n2⟩ := h2
  refine ⟨⟨_, pgs_cons p1 p2 (by rw [assignEach_cons hp]; rfl), fun O U σ H ρ v d Q st r h => ?_⟩, fun d ρ x ρ' h => ?_⟩
  case refine_2 =>
    cases d with
    | nil => cases h
    | cons d ds =>
      have h : (g d ρ).bind (fun _ => u ds) = .exc x ρ' := h
      cases e : g d ρ with
      | ok a ρ1 => rw [e] at h; exact n2 _ _ _ _ h
      | exc y ρ1 => exact n1 _ _ _ _ e
      | bad => rw [e] at h; cases h
  cases r with
  | nil => exact h.elim
  | @cons v d vs ds r rr =>
    refine ⟨v, vs, rfl, r1 O U σ H ρ v d _ st r ?_⟩
    have h : TgR c (ts ++ us) O U σ H ((g d ρ).bind fun _ => u ds) Q := h
    cases e : g d ρ with
    | exc x ρ1 => rw [e] at h; exact h
    | bad => rw [e] at h; exact h
    | ok a ρ1 =>
      rw [e] at h
      intro σ1 st1 l1 k1
      refine r2 O U σ1 H ρ1 vs ds Q st1 rr ?_
      have h : TgR c (ts ++ us) O U σ H (u ds ρ1) Q := h
      cases e2 : u ds ρ1 with
      | exc x ρ1 => rw [e2] at h; exact h
      | bad => rw [e2] at h; exact h
      | ok a ρ2 =>
        rw [e2] at h
        exact fun σ2 st2 l2 k2 => h σ2 st2 (l2.trans l1) fun i hi => (k2 i fun z => hi (List.mem_append_right _ z)).trans (k1 i fun z => hi (List.mem_append_left _ z))
theorem assignEach_len {es : List Expr} {env : Env} (h : es.all asgPlain = true) : (assignEach es env).length = es.length ∧ (assignEach es env).findIdx? (·.1) = none := by
  induction es with
  | nil => exact ⟨rfl, rfl⟩
  | cons e es ih =>
    rw [List.all_cons, Bool.and_eq_true] at h
    rw [assignEach_cons h.1]
    refine ⟨by rw [List.length_cons, List.length_cons, (ih h.2).1], ?_⟩
    rw [List.findIdx?_cons]
    simp [(ih h.2).2]
theorem tg_tup {es : List Expr} {k : Nat} {ts : List Nat} {u : List D → M Unit} (hc : X.calm = true) (F : Fit X c) (h : TgsOk X c es ts u) (hp : es.all asgPlain = true) : TgOk X c (.Tuple es k pos) ts (M.setTup es.length u) := by
  obtain ⟨⟨t, p, r⟩, n⟩ := h
  refine ⟨⟨_, pg_tup hc p (assignEach_len hp).1 (assignEach_len hp).2, fun O U σ H ρ v d Q st rv h => ?_⟩, fun d ρ x ρ' h => ?_⟩
  case refine_2 =>
    cases d with
    | tuple ds =>
      have h : (if ds.length = es.length then u ds else M.bad) ρ = .exc x ρ' := h
      split at h
      · exact n _ _ _ _ h
      · cases h
    | _ => cases h
  cases d with
  | tuple ds =>
    have h : TgR c ts O U σ H ((if ds.length = es.length then u ds else M.bad) ρ) Q := h
    by_cases hl : ds.length = es.length
    · rw [if_pos hl] at h
      obtain ⟨a, vs, rfl, e, r2⟩ := rv.eTup
      exact ⟨a, vs, rfl, F.K ▸ e, by rw [r2.length]; exact hl, r O U σ H ρ vs ds Q st r2 h⟩
    · rw [if_neg hl] at h; exact h.elim
  | _ => exact h.elim
/-! ### [elt for target in iter if ..] -/
def wipeE (ρ : Ev) : List Nat → Ev
  | [] => ρ
  | v :: vs => (wipeE ρ vs).set v none
def restE (ρ ρ3 : Ev) : List Nat → Ev
  | [] => ρ3
  | v :: vs => (restE ρ ρ3 vs).set v ((ρ[v]?).getD none)
theorem wipeE_len (ρ : Ev) : ∀ vs : List Nat, (wipeE ρ vs).length = ρ.length
  | [] => rfl
  | v :: vs => by unfold wipeE; rw [List.length_set, wipeE_len ρ vs]
theorem restE_len (ρ ρ3 : Ev) : ∀ vs : List Nat, (restE ρ ρ3 vs).length = ρ3.length
  | [] => rfl
  | v :: vs => by unfold restE; rw [List.length_set, restE_len ρ ρ3 vs]
theorem wipeE_get {ρ : Ev} {i : Nat} : ∀ (vs : List Nat), (i ∉ vs → (wipeE ρ vs)[i]? = ρ[i]?) ∧ (i ∈ vs → (wipeE ρ vs)[i]? = if i < ρ.length then some none else none)
  | [] => ⟨fun _ => rfl, nofun⟩
  | v :: vs => by
    obtain ⟨h1, h2⟩ := wipeE_get (ρ := ρ) (i := i) vs
    unfold wipeE
    by_cases z : v = i
    · subst z
      refine ⟨fun n => absurd (by simp) n, fun _ => ?_⟩
      by_cases hl : v < ρ.length
      · rw [List.getElem?_set_self (by rw [wipeE_len]; exact hl), if_pos hl]
      · rw [if_neg hl, List.getElem?_eq_none (by rw [List.length_set, wipeE_len]; omega)]
    · rw [List.getElem?_set_ne z]
      exact ⟨fun n => h1 fun w => n (List.mem_cons_of_mem _ w), fun m => h2 ((List.mem_cons.mp m).resolve_left fun w => z w.symm)⟩
theorem restE_get {ρ ρ3 : Ev} {i : Nat} : ∀ (vs : List Nat), (i ∉ vs → (restE ρ ρ3 vs)[i]? = ρ3[i]?) ∧ (i ∈ vs → (restE ρ ρ3 vs)[i]? = if i < ρ3.length then some ((ρ[i]?).getD none) else none)
  | [] => ⟨fun _ => rfl, nofun⟩
  | v :: vs => by
    obtain ⟨h1, h2⟩ := restE_get (ρ := ρ) (ρ3 := ρ3) (i := i) vs
    unfold restE
    by_cases z : v = i
    · subst z
      refine ⟨fun n => absurd (by simp) n, fun _ => ?_⟩
      by_cases hl : v < ρ3.length
      · rw [List.getElem?_set_self (by rw [restE_len]; exact hl), if_pos hl]
      · rw [if_neg hl, List.getElem?_eq_none (by rw [List.length_set, restE_len]; omega)]
    · rw [List.getElem?_set_ne z]
      exact ⟨fun n => h1 fun w => n (List.mem_cons_of_mem _ w), fun m => h2 ((List.mem_cons.mp m).resolve_left fun w => z w.symm)⟩
theorem wipe_get {σ : L2.St} {i : Nat} : ∀ (vs : List Nat), (i ∉ vs → (wipe σ vs)[i]? = σ[i]?) ∧ (i ∈ vs → (wipe σ vs)[i]? = if i < σ.length then some none else none)
  | [] => ⟨fun _ => rfl, nofun⟩
  | v :: vs => by
    obtain ⟨h1, h2⟩ := wipe_get (σ := σ) (i := i) vs
    unfold wipe
    by_cases z : v = i
    · subst z
      refine ⟨fun n => absurd (by simp) n, fun _ => ?_⟩
      by_cases hl : v < σ.length
      · rw [List.getElem?_set_self (by rw [wipe_length]; exact hl), if_pos hl]
      · rw [if_neg hl, List.getElem?_eq_none (by rw [List.length_set, wipe_length]; omega)]
    · rw [List.getElem?_set_ne z]
      exact ⟨fun n => h1 fun w => n (List.mem_cons_of_mem _ w), fun m => h2 ((List.mem_cons.mp m).resolve_left fun w => z w.symm)⟩
theorem wipe_eq {σ σ' : L2.St} {vs : List Nat} (hl : σ'.length = σ.length) (h : ∀ i, i ∉ vs → σ'[i]? = σ[i]?) : wipe σ' vs = wipe σ vs := by
  apply List.ext_getElem?
  intro i
  by_cases z : i ∈ vs
  · rw [(wipe_get vs).2 z, (wipe_get vs).2 z, hl]
  · rw [(wipe_get vs).1 z, (wipe_get vs).1 z, h i z]
theorem sto_wipe {K : Fr} {S : Nat → Bool} {O : AS} {U : Nat → Option Addr} {σ : L2.St} {H : Hp} {ρ : Ev} {vs : List Nat} (st : Sto K S O U σ H ρ) (hS : vs.all (fun i => !S i) = true) : Sto K S O U (wipe σ vs) H (wipeE ρ vs) := by
  have out : ∀ i d, (wipeE ρ vs)[i]? = some (some d) → i ∉ vs ∧ ρ[i]? = some (some d) := fun i d e => by
    by_cases z : i ∈ vs
    · rw [(wipeE_get vs).2 z] at e
      split at e <;> cases e
    · rw [(wipeE_get vs).1 z] at e; exact ⟨z, e⟩
  refine ⟨by rw [wipe_length, wipeE_len]; exact st.len, fun i d e n => ?_, fun i d e n => ?_, st.uS, st.out, st.inj, st.domO, st.domU, st.tab⟩
  · obtain ⟨z, e⟩ := out i d e
    rw [(wipe_get vs).1 z]
    exact st.dat i d e n
  · obtain ⟨z, e⟩ := out i d e
    rw [(wipe_get vs).1 z]
    exact st.own i d e n
/-- behind a turn -/
theorem sto_rest {K : Fr} {S : Nat → Bool} {O : AS} {U : Nat → Option Addr} {σ σ2 : L2.St} {H H3 : Hp} {ρ ρ3 : Ev} {vs : List Nat} (st : Sto K S O U σ H ρ) (k : Keep U H H3) (st3 : Sto K S O U σ2 H3 ρ3) (hl : σ2.length = σ.length) (hk : ∀ i, i ∉ vs → σ2[i]? = σ[i]?) (hS : vs.all (fun i => !S i) = true) :
    Sto K S O U σ H3 (restE ρ ρ3 vs) := by
  have e3 : ρ3.length = σ.length := by rw [← hl]; exact st3.len.symm
  refine ⟨by rw [restE_len]; omega, fun i d e n => ?_, fun i d e n => ?_, st.uS, st.out, st.inj, st3.domO, st3.domU, st3.tab⟩
  · by_cases z : i ∈ vs
    · rw [(restE_get vs).2 z] at e
      split at e
      · rename_i hl
        simp only [Option.some.injEq] at e
        have e : ρ[i]? = some (some d) := by
          cases q : ρ[i]? with
          | none => rw [q] at e; cases e
          | some o => rw [q] at e; simp only [Option.getD_some] at e; rw [e]
        obtain ⟨v, e1, r⟩ := st.dat i d e n
        exact ⟨v, e1, k.rp r⟩
      · cases e
    · rw [(restE_get vs).1 z] at e
      obtain ⟨v, e1, r⟩ := st3.dat i d e n
      exact ⟨v, by rw [← hk i z]; exact e1, r⟩
  · have z : i ∉ vs := fun z => by
      have := List.all_eq_true.mp hS i z
      rw [n] at this; cases this
    rw [(restE_get vs).1 z] at e
    obtain ⟨a, ds, ws, u, e1, e2, e4, r⟩ := st3.own i d e n
    exact ⟨a, ds, ws, u, by rw [← hk i z]; exact e1, e2, e4, r⟩
/-- one turn: the item that comes of it, if any -/
def M.lcTurn (vs : List Nat) (g : D → M Unit) (t : M Bool) (e : M D) (d : D) : M (Option D) := fun ρ =>
  match ((g d).bind fun _ => t.bind fun b => cond b (e.bind fun y => M.pure (some y)) (M.pure none)) (wipeE ρ vs) with
  | .ok r ρ3 => .ok r (restE ρ ρ3 vs)
  | _ => .bad
def M.lcGo (gs : Gd) (turn : D → M (Option D)) : List D → List D → M D
  | [], acc => fun ρ => cond (chkG gs ρ) (.ok (.list acc) ρ) .bad
  | d :: ds, acc => fun ρ => cond (chkG gs ρ) ((turn d ρ).bind fun r => match r with
      | some y => if acc.length < sizeLine then M.lcGo gs turn ds (acc ++ [y]) else M.bad
      | none => M.lcGo gs turn ds acc) .bad
def M.lc (it : M (List D × Gd)) (turn : D → M (Option D)) : M D := it.bind fun p => M.lcGo p.2 turn p.1 []
abbrev Cn.nox (c : Cn) : Cn := { c with W := fun _ _ _ _ => False }
structure TsOk (X : Cx) (c : Cn) (ifs : List Expr) (q : Bool) (m : M Bool) : Prop where
  ex : ∃ te, PTs X ifs te ∧ Tr c RelB q te m
theorem ts_nil : TsOk X c [] true (M.pure true) := ⟨_, pts_nil, fun O U σ H ρ Q st h => h true H st Keep.refl (fun _ => Same.refl H) rfl⟩
theorem ts_one {e : Expr} {q : Bool} {m : M Bool} (h : TtOk X c e q m) : TsOk X c [e] q m := by
  obtain ⟨te, p, t⟩ := h
  exact ⟨te, pts_one p, t⟩
/-! one reading for all of a family's contexts -/
theorem EvOk.uni {ι : Type} {XX : ι → Cx} {e : Expr} {l : Lv} {q : Bool} {m : M D} (h : ∀ i, EvOk (XX i) c e l q m) : ∃ te, (∀ i, PE (XX i) e te) ∧ Tr c (RpL c.K c.P l) q te m :=
  ⟨fun σ H Q => ∀ i, (h i).ex.choose σ H Q, fun i => ⟨fun pins s σ H Q I hq => (h i).ex.choose_spec.1.run pins s σ H Q I (hq i)⟩, fun O U σ H ρ Q st r i => (h i).ex.choose_spec.2 O U σ H ρ Q st r⟩
theorem TsOk.uni {ι : Type} {XX : ι → Cx} {e : List Expr} {q : Bool} {m : M Bool} (h : ∀ i, TsOk (XX i) c e q m) : ∃ te, (∀ i, PTs (XX i) e te) ∧ Tr c RelB q te m :=
  ⟨fun σ H Q => ∀ i, (h i).ex.choose σ H Q, fun i => ⟨fun pins s σ H Q I hq => (h i).ex.choose_spec.1.run pins s σ H Q I (hq i)⟩, fun O U σ H ρ Q st r i => (h i).ex.choose_spec.2 O U σ H ρ Q st r⟩
theorem TgOk.uni {ι : Type} {XX : ι → Cx} {e : Expr} {ts : List Nat} {g : D → M Unit} (h : ∀ i, TgOk (XX i) c e ts g) : ∃ t, (∀ i, PG (XX i) e t) ∧ ∀ O U σ H ρ v d Q, Sto c.K c.S O U σ H ρ → Rp c.K (Av O U) H v d → TgR c ts O U σ H (g d ρ) Q → t v σ H Q :=
  ⟨fun v σ H Q => ∀ i, (h i).ex.choose v σ H Q, fun i => ⟨fun pins s σ H v u Q I r hq => (h i).ex.choose_spec.1.run pins s σ H v u Q I r (hq i)⟩, fun O U σ H ρ v d Q st r hr i => (h i).ex.choose_spec.2 O U σ H ρ v d Q st r hr⟩
structure Bk where
  s : Shared
  H : Hp
  C : Addr
  cl : List (Str × Addr)
  fp : List Addr
abbrev Bk.cx (X : Cx) (scope : Scope) (b : Bk) : Cx := X.blk b.s b.H scope (compEnvC scope b.cl b.C X.env) b.fp
theorem lc_tr {elt tg iter : Expr} {ifs : List Expr} {scope : Scope} {own : List (Str × Nat)} {qi qt qe : Bool} {le : Lv} {ts js : List Nat} {mi : M (List D × Gd)} {g : D → M Unit} {t : M Bool} {e : M D} (F : Fit X c) (hc : X.calm = true) (hN : X.N.Nodup) (hi : ItOk X c tg iter js qi mi) (ok : BlkOk X.N X.env.scope scope own)
    (hg : ∀ b : Bk, TgOk (b.cx X scope) c.nox tg ts g) (ht : ∀ b : Bk, TsOk (b.cx X scope) c.nox ifs qt t) (he : ∀ b : Bk, EvOk (b.cx X scope) c.nox elt le qe e) (hle : le.p = true)
    (hts : ts.all (fun i => (own.map (·.2)).contains i) = true) (hS : (own.map (·.2)).all (fun i => !c.S i) = true) :
    ∃ wi tg' tt te, PI X tg iter wi ∧ (∀ b : Bk, PG (b.cx X scope) tg tg') ∧ (∀ b : Bk, PTs (b.cx X scope) ifs tt) ∧ (∀ b : Bk, PE (b.cx X scope) elt te) ∧ Tr c (RpL c.K c.P .new) (qi && (qt && qe)) (tLc wi tg' tt te (own.map (·.2))) (M.lc mi (M.lcTurn (own.map (·.2)) g t e)) := by
  obtain ⟨wi, p0, t0⟩ := hi
  obtain ⟨tg', p1, t1⟩ := TgOk.uni hg
  obtain ⟨tt, p2, t2⟩ := TsOk.uni ht
  obtain ⟨te, p3, t3⟩ := EvOk.uni he
  refine ⟨wi, tg', tt, te, p0, p1, p2, p3, ?_⟩
  generalize hvs : own.map (·.2) = vs at hts hS
  refine Tr.bind (t2 := fun J σ H1 Q => ∀ D, H1 D = none → ∃ W : Nat → Nat → Hp → Prop, (∃ m, W 0 m (upd H1 D (.lst []))) ∧ ∀ i m H, W i m H →
    (J.stop i H ∧ Q (.ref D) H) ∨ (J.go i H ∧ ∃ Nx : Hp → Prop, (∀ H', Nx H' → ∃ m', m' < m ∧ W (i + 1) m' H') ∧ ∀ x H', J.yld i H x H' → tg' x (wipe σ vs) H' fun σ2 H2 => wipe σ2 vs = wipe σ vs ∧ tt σ2 H2 fun b H3 =>
      if b = true then te σ2 H3 fun y H4 => ∃ acc, H4 D = some (.lst acc) ∧ acc.length < sizeLine ∧ Nx (upd H4 D (.lst (acc ++ [y]))) else Nx H3)) ant_rpl t0 (fun p J O U σ H H1 ρ Q st k s rI h => ?_) rfl
  intro Dd hD
  obtain ⟨gS, w⟩ := rI
  let O2 : AS := fun b => O b ∨ b = Dd
  have ch : ∀ b, Av O2 U b → Av O U b ∨ ¬ Dn H1 b := fun b z => by
    rcases z with (z | z) | z
    · exact .inl (.inl z)
    · exact .inr (by rw [z]; exact not_dn hD)
    · exact .inl (.inr z)
  let turn := M.lcTurn vs g t e
  refine lc_it (w O2 U) (fun i H2 => ∃ ρi accd acc, Sto c.K c.S O2 U σ H2 ρi ∧ Keep U H1 H2 ∧ ((qt && qe) = true → Same H1 H2) ∧ H2 Dd = some (.lst acc) ∧ RpAll c.K (Av O2 U) H2 acc accd ∧
    Res c (RpL c.K c.P .new) O U σ H1 (qt && qe) (M.lcGo p.2 turn (p.1.drop i) accd ρi) Q) ?_ ?_ ?_ ?_
  · have sm := same_new (o := .lst []) hD
    have st' := st.same sm
    refine ⟨ρ, [], [], ⟨st'.len, fun i d e n => ?_, fun i d e n => ?_, st'.uS, fun i a u z => ?_, st'.inj, fun b z => ?_, st'.domU, st'.tab⟩, Keep.of_same sm, fun _ => sm, upd_same, .nil, h⟩
    · obtain ⟨v, e1, r⟩ := st.dat i d e n
      exact ⟨v, e1, rp_move (Keep.of_same sm) ch r⟩
    · obtain ⟨a, ds, ws, u, e1, e2, e3, r⟩ := st.own i d e n
      exact ⟨a, ds, ws, u, e1, e2, sm _ _ e3, rpAll_move (Keep.of_same sm) ch r⟩
    · rcases z with z | z
      · exact st.out i a u z
      · exact (st.domU i a u).ne (by rw [z]; exact hD)
    · rcases z with z | z
      · exact st'.domO b z
      · rw [z]; exact .of upd_same
  · rintro i H2 hi ⟨ρi, accd, acc, st2, k2, s2, e2, r2, h2⟩
    have hck : chkG p.2 ρi = true := by
      cases q : chkG p.2 ρi with
      | true => rfl
      | false =>
        exfalso
        cases q2 : p.1.drop i with
        | nil => rw [q2] at h2; unfold M.lcGo at h2; simp only [q, cond_false] at h2; exact h2.elim
        | cons d ds => rw [q2] at h2; unfold M.lcGo at h2; simp only [q, cond_false] at h2; exact h2.elim
    exact Gh.of_chk st2 k2 ch hck fun q hq => ⟨(gS q hq).1, rfl⟩
  · rintro i x H2 H3 hi ⟨ρi, accd, acc, st2, k2, s2, e2, r2, h2⟩ ⟨sm, d, ed, rx⟩
    have edrop : p.1.drop i = d :: p.1.drop (i + 1) := by
      rw [List.drop_eq_getElem_cons hi]
      have : p.1[i] = d := by rw [List.getElem?_eq_getElem hi] at ed; exact Option.some.inj ed
      rw [this]
    rw [edrop] at h2
    unfold M.lcGo at h2
    cases hck : chkG p.2 ρi with
    | false => rw [hck] at h2; exact h2.elim
    | true =>
      rw [hck] at h2
      simp only [cond_true] at h2
      have st3 := st2.same sm
      have k3 := k2.trans (Keep.of_same (.ofL sm))
      have e3 := sm _ _ e2
      have r3 := (Keep.of_same (U := U) (.ofL sm)).rpAll r2
      refine t1 O2 U (wipe σ vs) H3 (wipeE ρi vs) x d _ (sto_wipe st3 hS) rx ?_
      show TgR c.nox ts O2 U (wipe σ vs) H3 (g d (wipeE ρi vs)) _
      have hturn : turn d ρi = (match ((g d).bind fun _ => t.bind fun b => cond b (e.bind fun y => M.pure (some y)) (M.pure none)) (wipeE ρi vs) with
        | .ok r ρ3 => .ok r (restE ρi ρ3 vs)
        | _ => .bad) := rfl
      rw [hturn] at h2
      cases eg : g d (wipeE ρi vs) with
      | exc y ρ1 =>
        have : ((g d).bind fun _ => t.bind fun b => cond b (e.bind fun y => M.pure (some y)) (M.pure none)) (wipeE ρi vs) = .exc y ρ1 := by show (g d (wipeE ρi vs)).bind _ = _; rw [eg]; rfl
        rw [this] at h2; exact h2.elim
      | bad =>
        have : ((g d).bind fun _ => t.bind fun b => cond b (e.bind fun y => M.pure (some y)) (M.pure none)) (wipeE ρi vs) = .bad := by show (g d (wipeE ρi vs)).bind _ = _; rw [eg]; rfl
        rw [this] at h2; exact h2.elim
      | ok a ρ1 =>
        have e0 : ((g d).bind fun _ => t.bind fun b => cond b (e.bind fun y => M.pure (some y)) (M.pure none)) (wipeE ρi vs) = (t ρ1).bind fun b => cond b (e.bind fun y => M.pure (some y)) (M.pure none) := by show (g d (wipeE ρi vs)).bind _ = _; rw [eg]; rfl
        rw [e0] at h2
        intro σ2 st4 l4 k4
        have l4' : σ2.length = σ.length := by rw [l4, wipe_length]
        have k4' : ∀ i, i ∉ vs → σ2[i]? = σ[i]? := fun j hj => by
          rw [k4 j fun z => hj (by have := List.all_eq_true.mp hts j z; simpa using this), (wipe_get vs).1 hj]
        refine ⟨wipe_eq l4' k4', ?_⟩
        refine t2 O2 U σ2 H3 ρ1 _ st4 ?_
        have stay : ∀ {H4}, Keep U H3 H4 → H4 Dd = some (.lst acc) := fun kk => kk _ _ e3 rfl (.inl fun j z => st3.out j Dd z (.inr rfl))
        cases et : t ρ1 with
        | exc y ρ2 => rw [et] at h2; exact h2.elim
        | bad => rw [et] at h2; exact h2.elim
        | ok b ρ2 =>
          rw [et] at h2
          intro b' H4 st5 k5 s5 eb
          have eb : b' = b := eb
          subst eb
          have k5' := k3.trans k5
          cases b' with
          | false =>
            have h2 : Res c (RpL c.K c.P .new) O U σ H1 (qt && qe) (M.lcGo p.2 turn (p.1.drop (i + 1)) accd (restE ρi ρ2 vs)) Q := h2
            refine ⟨restE ρi ρ2 vs, accd, acc, sto_rest st3 k5 st5 l4' k4' hS, k5', fun z => ?_, stay k5, k5.rpAll r3, h2⟩
            obtain ⟨z1, z2⟩ := Bool.and_eq_true_iff.mp z
            exact ((s2 z).trans sm).trans (s5 z1)
          | true =>
            refine t3 O2 U σ2 H4 ρ2 _ st5 ?_
            have h2 : Res c (RpL c.K c.P .new) O U σ H1 (qt && qe) ((match (e ρ2).bind fun y => M.pure (some y) with
              | .ok r ρ3 => Oc.ok r (restE ρi ρ3 vs)
              | _ => .bad).bind fun r => match r with
                | some y => if accd.length < sizeLine then M.lcGo p.2 turn (p.1.drop (i + 1)) (accd ++ [y]) else M.bad
                | none => M.lcGo p.2 turn (p.1.drop (i + 1)) accd) Q := h2
            cases ee : e ρ2 with
            | exc y ρ3 => rw [ee] at h2; exact h2.elim
            | bad => rw [ee] at h2; exact h2.elim
            | ok y ρ3 =>
              rw [ee] at h2
              have h2 : Res c (RpL c.K c.P .new) O U σ H1 (qt && qe) ((if accd.length < sizeLine then M.lcGo p.2 turn (p.1.drop (i + 1)) (accd ++ [y]) else M.bad) (restE ρi ρ3 vs)) Q := h2
              by_cases hz : accd.length < sizeLine
              · rw [if_pos hz] at h2
                intro yv H5 st6 k6 s6 ry
                have k56 := k5.trans k6
                have e5 := stay k56
                have r5 := k56.rpAll r3
                refine ⟨acc, e5, by rw [r5.length]; exact hz, restE ρi ρ3 vs, accd ++ [y], acc ++ [yv], ?_, ?_, fun z => ?_, upd_same, ?_, h2⟩
                · have st7 := sto_rest st3 k56 st6 l4' k4' hS
                  have nD : ∀ j b, U j = some b → b ≠ Dd := fun j b u z => st3.out j b u (.inr z)
                  have kk : ∀ b o, H5 b = some o → isTbl o = false → (¬ Av O2 U b ∨ isTup o = true) → (upd H5 Dd (.lst (acc ++ [yv]))) b = some o := fun b o e _ n => by
                    rw [upd_ne]
                    · exact e
                    · intro z
                      subst z
                      rw [e5] at e; cases e
                      rcases n with n | n
                      · exact n (.inl (.inr rfl))
                      · cases n
                  refine ⟨st7.len, fun j d e n => ?_, fun j d e n => ?_, st7.uS, st7.out, st7.inj, fun b z => ?_, fun j b z => ?_, tabs_put st7.tab e5⟩
                  · obtain ⟨v, e1, r⟩ := st7.dat j d e n
                    exact ⟨v, e1, r.mono kk⟩
                  · obtain ⟨a, ds, ws, u, e1, e2, e4, r⟩ := st7.own j d e n
                    exact ⟨a, ds, ws, u, e1, e2, by rw [upd_ne (nD j a u)]; exact e4, r.mono kk⟩
                  · by_cases w : b = Dd
                    · rw [w]; exact .of upd_same
                    · obtain ⟨o, eo, no⟩ := st7.domO b z
                      exact ⟨o, by rw [upd_ne w]; exact eo, no⟩
                  · obtain ⟨o, eo, no⟩ := st7.domU j b z
                    exact ⟨o, by rw [upd_ne (nD j b z)]; exact eo, no⟩
                · refine fun b o eb tn n => ?_
                  rw [upd_ne (ne_of_none eb hD)]
                  exact (k3.trans k56) b o eb tn n
                · obtain ⟨z1, z2⟩ := Bool.and_eq_true_iff.mp z
                  intro b o eb tn
                  rw [upd_ne (ne_of_none eb hD)]
                  exact ((((s2 z).trans (.ofL sm)).trans (s5 z1)).trans (s6 z2)) b o eb tn
                · have kk : ∀ b o, H5 b = some o → isTbl o = false → (¬ Av O2 U b ∨ isTup o = true) → (upd H5 Dd (.lst (acc ++ [yv]))) b = some o := fun b o e _ n => by
                    rw [upd_ne]
                    · exact e
                    · intro z
                      subst z
                      rw [e5] at e; cases e
                      rcases n with n | n
                      · exact n (.inl (.inr rfl))
                      · cases n
                  exact (r5.snoc (ry.p hle)).mono kk
              · rw [if_neg hz] at h2; exact h2.elim
  · rintro H2 ⟨ρi, accd, acc, st2, k2, s2, e2, r2, h2⟩
    rw [List.drop_length] at h2
    unfold M.lcGo at h2
    cases hck : chkG p.2 ρi with
    | false => rw [hck] at h2; exact h2.elim
    | true =>
      rw [hck] at h2
      have h2 : Res c (RpL c.K c.P .new) O U σ H1 (qt && qe) (.ok (.list accd) ρi) Q := h2
      refine h2 _ H2 ⟨st2.len, fun j d e n => ?_, fun j d e n => ?_, st2.uS, fun j a u z => st2.out j a u (.inl z), st2.inj, fun b z => st2.domO b (.inl z), st2.domU, st2.tab⟩ k2 s2 (rpl_new (not_dn hD) e2 ?_ ?_ ?_)
      · obtain ⟨v, e1, r⟩ := st2.dat j d e n
        exact ⟨v, e1, r.imp fun b z => .inl (z.imp .inl id)⟩
      · obtain ⟨a, ds, ws, u, e1, e3, e4, r⟩ := st2.own j d e n
        exact ⟨a, ds, ws, u, e1, e3, e4, r.imp fun b z => .inl (z.imp .inl id)⟩
      · rintro (z | ⟨j, z⟩)
        · exact (st.domO Dd z).ne hD
        · exact (st.domU j Dd z).ne hD
      · exact r2.imp fun b z => .inl (by
          rcases z with (z | z) | z
          · exact .inl (.inl z)
          · exact .inr z
          · exact .inl (.inr z))
      · exact st2
theorem ev_lc {elt tg iter : Expr} {ifs : List Expr} {scope : Scope} {own : List (Str × Nat)} {qi qt qe : Bool} {le : Lv} {ts js : List Nat} {mi : M (List D × Gd)} {g : D → M Unit} {t : M Bool} {e : M D} (F : Fit X c) (hc : X.calm = true) (hN : X.N.Nodup) (hi : ItOk X c tg iter js qi mi) (ok : BlkOk X.N X.env.scope scope own)
    (hg : ∀ b : Bk, TgOk (b.cx X scope) c.nox tg ts g) (ht : ∀ b : Bk, TsOk (b.cx X scope) c.nox ifs qt t) (he : ∀ b : Bk, EvOk (b.cx X scope) c.nox elt le qe e) (hle : le.p = true)
    (hts : ts.all (fun i => (own.map (·.2)).contains i) = true) (hS : (own.map (·.2)).all (fun i => !c.S i) = true) (hfs : ∀ x, foldedSetIterable iter X.env x = pure x) :
    EvOk X c (.ListComp elt [⟨tg, iter, ifs, 0⟩] scope pos) .new (qi && (qt && qe)) (M.lc mi (M.lcTurn (own.map (·.2)) g t e)) := by
  obtain ⟨wi, tg', tt, te, p0, p1, p2, p3, tr⟩ := lc_tr F hc hN hi ok hg ht he hle hts hS
  exact ⟨_, pe_lc hc hN p0 ok (fun s H C cl fp => p1 ⟨s, H, C, cl, fp⟩) (fun s H C cl fp => p2 ⟨s, H, C, cl, fp⟩) (fun s H C cl fp => p3 ⟨s, H, C, cl, fp⟩) hfs, tr⟩
end
end Cr
end
section
set_option Elab.async false
set_option linter.all false
set_option maxRecDepth 100000
set_option maxHeartbeats 4000000
namespace Cr
open PySem PySem.Spec L2
set_option autoImplicit false
/-! ### statements -/
structure Fm (c : Cn) (U : Nat → Option Addr) (H : Hp) : Prop where
  z : ∀ b, Dn c.Z b → Dn H b
  u : ∀ i b, c.P i = false → U i = some b → ¬ Dn c.Z b
/-- the slots' lists: kept, or new ones in their place -/
def Chg (c : Cn) (U U' : Nat → Option Addr) (H : Hp) : Prop := ∀ i, U' i = U i ∨ (c.P i = false ∧ c.Fx i = false ∧ ∀ b, U' i = some b → ¬ Dn H b)
theorem Chg.refl {c : Cn} {U : Nat → Option Addr} {H : Hp} : Chg c U U H := fun _ => .inl rfl
theorem Chg.new {c : Cn} {U U' : Nat → Option Addr} {H : Hp} (k : Chg c U U' H) {i : Nat} {b : Addr} (e : U' i = some b) : U i = some b ∨ ¬ Dn H b := by
  rcases k i with z | ⟨_, _, z⟩
  · exact .inl (by rw [← z]; exact e)
  · exact .inr (z b e)
theorem Chg.trans {c : Cn} {U U1 U2 : Nat → Option Addr} {H H1 : Hp} (a : Chg c U U1 H) (d : Dm H H1) (b : Chg c U1 U2 H1) : Chg c U U2 H := fun i => by
  rcases b i with z | ⟨z1, z2, z3⟩
  · rw [z]; exact a i
  · refine .inr ⟨z1, z2, fun b e => ?_⟩
    exact fun q => z3 b e (d b q)
theorem Keep.chg {c : Cn} {U U1 : Nat → Option Addr} {H H1 H2 : Hp} (k : Keep U H H1) (a : Chg c U U1 H) (k2 : Keep U1 H1 H2) : Keep U H H2 := fun b o e t n => by
  have e1 := k b o e t n
  refine k2 b o e1 t (n.imp (fun n i z => ?_) id)
  rcases a.new z with z | z
  · exact n i z
  · exact z ⟨o, e, t⟩
theorem Fm.next {c : Cn} {U U1 : Nat → Option Addr} {H H1 : Hp} (f : Fm c U H) (d : Dm H H1) (a : Chg c U U1 H) : Fm c U1 H1 :=
  ⟨fun b z => d b (f.z b z), fun i b p e => by
    rcases a.new e with e | e
    · exact f.u i b p e
    · exact fun q => e (f.z b q)⟩
def RetOk (c : Cn) (O : AS) (U : Nat → Option Addr) (H : Hp) (ρ : Ev) (v : V) (d : D) : Prop :=
  Rp c.K (Av O (UP c.P U)) H v d ∧ (c.fr = true → ∀ ds, d = .list ds → ∃ a vs, v = .ref a ∧ ¬ Dn c.Z a ∧ H a = some (.lst vs) ∧ RpAll c.K (fun b => Av O (UP c.P U) b ∨ b = a) H vs ds ∧
    ∀ i b fs, UP c.P U i = some b → ρ[i]? = some (some (.list fs)) → ∃ ws, H b = some (.lst ws) ∧ RpAll c.K (Av (fun b => O b ∨ b = a) (UP c.P U)) H ws fs)
def FlR (c : Cn) (O : AS) (U' : Nat → Option Addr) (σ' : L2.St) (H' : Hp) (ρ' : Ev) (D : Ends) : Fl → Prop
  | .nx => D.nx σ' H'
  | .bk => D.bk σ' H'
  | .ct => D.ct σ' H'
  | .rt d => ∀ v, RetOk c O U' H' ρ' v d → D.rt v H'
def SRes (c : Cn) (O : AS) (U : Nat → Option Addr) (H : Hp) (o : Oc Fl) (D : Ends) : Prop := match o with
  | .ok fl ρ' => ∀ U' σ' H', Sto c.K c.S O U' σ' H' ρ' → Keep U H H' → Dm H H' → Chg c U U' H → FlR c O U' σ' H' ρ' D fl
  | .exc x ρ' => ∀ U' σ' H' cls dd, Sto c.K c.S O U' σ' H' ρ' → Keep U H H' → Dm H H' → Chg c U U' H → ExL c O U' H' x cls dd → c.W cls dd σ' H'
  | .bad => False
theorem SRes.at {c : Cn} {O : AS} {U U1 : Nat → Option Addr} {H H1 : Hp} {o : Oc Fl} {D : Ends} (k : Keep U H H1) (d : Dm H H1) (a : Chg c U U1 H) (h : SRes c O U H o D) : SRes c O U1 H1 o D := by
  cases o with
  | ok fl ρ' => exact fun U' σ' H' st k' d' a' => h U' σ' H' st (k.chg a k') (d.trans d') (a.trans d a')
  | exc x ρ' => exact fun U' σ' H' cls dd st k' d' a' e => h U' σ' H' cls dd st (k.chg a k') (d.trans d') (a.trans d a') e
  | bad => exact h
structure StOk (X : Cx) (c : Cn) (st : Stmt) (m : M Fl) : Prop where
  ex : ∃ t, PS X st t ∧ ∀ O U σ H ρ D, Sto c.K c.S O U σ H ρ → Fm c U H → SRes c O U H (m ρ) D → t D σ H
structure SsOk (X : Cx) (c : Cn) (st : List Stmt) (m : M Fl) : Prop where
  ex : ∃ t, PSs X st t ∧ ∀ O U σ H ρ D, Sto c.K c.S O U σ H ρ → Fm c U H → SRes c O U H (m ρ) D → t D σ H
def M.nx : M Fl := M.pure .nx
def M.seq (a b : M Fl) : M Fl := a.bind fun fl => match fl with
  | .nx => b
  | f => M.pure f
section
variable {X : Cx} {c : Cn} {pos : Pos}
theorem sres_here {O : AS} {U : Nat → Option Addr} {σ : L2.St} {H : Hp} {ρ : Ev} {D : Ends} {fl : Fl} (st : Sto c.K c.S O U σ H ρ) (h : SRes c O U H (.ok fl ρ) D) : FlR c O U σ H ρ D fl := h U σ H st Keep.refl Dm.refl Chg.refl
theorem st_never {st : Stmt} : StOk X c st M.bad := ⟨_, ps_never, fun _ _ _ _ _ _ _ _ h => h⟩
theorem ss_nil : SsOk X c [] M.nx := ⟨_, pss_nil, fun O U σ H ρ D st _ h => sres_here (fl := .nx) st h⟩
/-- what comes behind -/
theorem sres_bind {O : AS} {U : Nat → Option Addr} {H : Hp} {o : Oc Fl} {f : Fl → M Fl} {D D' : Ends} (h : SRes c O U H (o.bind f) D)
    (hk : ∀ fl ρ' U' σ' H', Sto c.K c.S O U' σ' H' ρ' → Keep U H H' → Dm H H' → Chg c U U' H → SRes c O U' H' (f fl ρ') D → FlR c O U' σ' H' ρ' D' fl) : SRes c O U H o D' := by
  cases o with
  | ok fl ρ' => exact fun U' σ' H' st k d a => hk fl ρ' U' σ' H' st k d a (SRes.at k d a h)
  | exc x ρ' => exact h
  | bad => exact h
theorem ss_cons {st : Stmt} {rest : List Stmt} {a b : M Fl} (h1 : StOk X c st a) (h2 : SsOk X c rest b) : SsOk X c (st :: rest) (M.seq a b) := by
  obtain ⟨t1, p1, r1⟩ := h1
  obtain ⟨t2, p2, r2⟩ := h2
  refine ⟨_, pss_cons p1 p2, fun O U σ H ρ D st fm h => ?_⟩
  refine r1 O U σ H ρ _ st fm (sres_bind (D' := { D with nx := t2 D }) (o := a ρ) h fun fl ρ' U' σ' H' st' k d ch h' => ?_)
  cases fl with
  | nx => exact r2 O U' σ' H' ρ' D st' (fm.next d ch) h'
  | bk => exact sres_here (fl := .bk) st' h'
  | ct => exact sres_here (fl := .ct) st' h'
  | rt v => exact sres_here (fl := .rt v) st' h'
theorem st_pass : StOk X c (.Pass pos) M.nx := ⟨_, ps_pass, fun O U σ H ρ D st _ h => sres_here (fl := .nx) st h⟩
theorem st_break : StOk X c (.Break pos) (M.pure .bk) := ⟨_, ps_break, fun O U σ H ρ D st _ h => sres_here (fl := .bk) st h⟩
theorem st_cont : StOk X c (.Continue pos) (M.pure .ct) := ⟨_, ps_continue, fun O U σ H ρ D st _ h => sres_here (fl := .ct) st h⟩
/-- an expression's value, then the rest -/
theorem tr_then {α β : Type} {R : Rel β α} {te : L2.St → Hp → (β → Hp → Prop) → Prop} {q : Bool} {m : M α} {f : α → M Fl} (t : Tr c R q te m) {O : AS} {U : Nat → Option Addr} {σ : L2.St} {H : Hp} {ρ : Ev} {D : Ends} {k : β → Hp → Prop} (st : Sto c.K c.S O U σ H ρ) (fm : Fm c U H)
    (h : SRes c O U H ((m ρ).bind f) D) (hk : ∀ d v H1 ρ1, Sto c.K c.S O U σ H1 ρ1 → Keep U H H1 → (q = true → Same H H1) → R O U H H1 (StT c U σ H1 ρ1) v d → Fm c U H1 → SRes c O U H1 (f d ρ1) D → k v H1) : te σ H k := by
  refine t O U σ H ρ _ st ?_
  cases e : m ρ with
  | ok d ρ1 =>
    rw [e] at h
    intro v H1 st1 k1 s1 r1
    have dm := Dm.of k1 st1.domU
    exact hk d v H1 ρ1 st1 k1 s1 r1 (fm.next dm Chg.refl) (SRes.at k1 dm Chg.refl h)
  | exc x ρ1 =>
    rw [e] at h
    intro cls dd H1 st1 k1 ex
    exact h U σ H1 cls dd st1 k1 (Dm.of k1 st1.domU) Chg.refl ex
  | bad => rw [e] at h; exact h
def plainSw : Expr → Bool
  | .ListComp _ _ _ _ => false
  | .SetComp _ _ _ _ => false
  | .DictComp _ _ _ _ _ => false
  | _ => true
theorem sw_plain {e : Expr} (h : plainSw e = true) {tg : Option Expr} {l : Nat} {env : Env} : swapsWith e tg l env = pure false := by
  cases e <;> first | rfl | (cases h; done)
theorem st_expr {e : Expr} {l : Lv} {q : Bool} {m : M D} (h : EvOk X c e l q m) (hs : plainSw e = true) : StOk X c (.Expr e pos) (m.bind fun _ => M.nx) := by
  obtain ⟨te, p, t⟩ := h
  exact ⟨_, ps_expr p (sw_plain hs), fun O U σ H ρ D st fm h => tr_then t st fm h fun d v H1 ρ1 st1 _ _ _ _ h' => sres_here (fl := .nx) st1 h'⟩
theorem st_doc {x : Str} {j : Nat} {p2 : Pos} : StOk X c (.Expr (.Constant (.str x) j p2) pos) M.nx := ⟨_, ps_doc, fun O U σ H ρ D st _ h => sres_here (fl := .nx) st h⟩
theorem st_if {e : Expr} {a b : List Stmt} {q : Bool} {mt : M Bool} {ma mb : M Fl} (ht : TtOk X c e q mt) (ha : SsOk X c a ma) (hb : SsOk X c b mb) : StOk X c (.If e a b pos) (M.ife mt ma mb) := by
  obtain ⟨tt, p0, t0⟩ := ht
  obtain ⟨ta, p1, r1⟩ := ha
  obtain ⟨tb, p2, r2⟩ := hb
  refine ⟨_, ps_if p0 p1 p2, fun O U σ H ρ D st fm h => tr_then t0 st fm h fun d v H1 ρ1 st1 _ _ e fm1 h' => ?_⟩
  have e : v = d := e
  subst e
  cases v with
  | true => exact r1 O U σ H1 ρ1 D st1 fm1 h'
  | false => exact r2 O U σ H1 ρ1 D st1 fm1 h'
/-! return -/
def M.ret (m : M D) : M Fl := m.bind fun d => M.pure (.rt d)
theorem st_ret {e : Expr} {l : Lv} {q : Bool} {m : M D} (h : EvOk X c e l q m) (hr : l.r = true) (hf : (!c.fr || l.f) = true) : StOk X c (.Return (some e) pos) (M.ret m) := by
  obtain ⟨te, p, t⟩ := h
  refine ⟨_, ps_ret p, fun O U σ H ρ D st fm h => tr_then t st fm h fun d v H1 ρ1 st1 k1 _ rv fm1 h' => ?_⟩
  refine sres_here (fl := .rt d) st1 h' v ⟨rv.r hr, fun z ds e => ?_⟩
  rcases Bool.or_eq_true_iff.mp hf with w | w
  · rw [z] at w; cases w
  · obtain ⟨a, vs, e1, e2, e3, r, t⟩ := rv.f w ds e
    have rest : ∀ i b fs, UP c.P U i = some b → ρ1[i]? = some (some (.list fs)) → ∃ ws, H1 b = some (.lst ws) ∧ RpAll c.K (Av (fun b => O b ∨ b = a) (UP c.P U)) H1 ws fs := fun i b fs u eb => by
      obtain ⟨_, u⟩ := up_some u
      obtain ⟨b', fs', ws, u', _, g1, g2, g3⟩ := t.own i _ eb (t.uS i b u)
      rw [u] at u'; cases u'
      cases g1
      exact ⟨ws, g2, g3.imp fun b z => .inl (av_up z)⟩
    refine ⟨a, vs, e1, ?_, e3, r.imp fun b z => .inl (z.imp av_up id), rest⟩
    exact fun q => e2 (fm.z a q)
theorem st_retN : StOk X c (.Return none pos) (M.pure (.rt .none)) := ⟨_, ps_retN, fun O U σ H ρ D st _ h => sres_here (fl := .rt .none) st h .non ⟨.non, fun _ ds e => by cases e⟩⟩
theorem st_retO {i : Nat} {x : Str} {p : Pos} (hN : X.N[i]? = some x) (hv : Vis X.env.scope x) (hd : (x == ("__debug__" : Str)) = false) (hcd : (x == ("__classdict__" : Str)) = false) (hS : c.S i = true) (hP : c.P i = false) : StOk X c (.Return (some (.Name x p)) pos) (M.ret (M.get i)) := by
  refine ⟨_, ps_ret (pe_var hN hv hd hcd), fun O U σ H ρ D st fm h => ?_⟩
  have h : SRes c O U H ((M.get i ρ).bind fun d => M.pure (.rt d)) D := h
  rcases get_cases i ρ with ⟨d, e, z⟩ | z
  · rw [z] at h
    obtain ⟨a, ds, vs, u, e1, e2, e3, r⟩ := st.own i d e hS
    subst e2
    have lo : RpAll c.K (Av O (UP c.P U)) H vs ds := r.imp fun b z => .inl (av_up z)
    have na : ¬ Av O (UP c.P U) a := by
      rintro (z | ⟨j, z⟩)
      · exact st.out i a u z
      · obtain ⟨hj, z⟩ := up_some z
        have := st.inj i j a u z
        subst this
        rw [hj] at hP; cases hP
    refine ⟨.ref a, e1, sres_here (fl := .rt (.list ds)) st h _ ⟨.lst e3 na lo, fun _ ds' e => ?_⟩⟩
    cases e
    refine ⟨a, vs, rfl, fm.u i a hP u, e3, r.imp fun b z => .inl ?_, fun j b fs uj ej => ?_⟩
    · rcases z with z | z
      · exact av_up z
      · exact .inr ⟨i, by rw [z]; exact u⟩
    · obtain ⟨_, uj⟩ := up_some uj
      obtain ⟨b', fs', ws, u', _, g1, g2, g3⟩ := st.own j _ ej (st.uS j b uj)
      rw [uj] at u'; cases u'
      cases g1
      refine ⟨ws, g2, g3.imp fun b z => .inl ?_⟩
      rcases z with (z | z) | z
      · exact .inl z
      · exact .inr ⟨i, by rw [z]; exact u⟩
      · exact av_up (.inr z)
  · rw [z] at h; exact h.elim
/-! assignment -/
def M.asg (i : Nat) (m : M D) : M Fl := m.bind fun d => (M.setD i d).bind fun _ => M.nx
theorem asg_then {i : Nat} {O : AS} {U : Nat → Option Addr} {σ : L2.St} {H : Hp} {ρ : Ev} {E : Ends} {v : V} {d : D} (hS : c.S i = false) (st : Sto c.K c.S O U σ H ρ) (r : Rp c.K (Av O U) H v d) (h : SRes c O U H (((M.setD i d).bind fun _ => M.nx) ρ) E) : E.nx (σ.set i (some v)) H :=
  sres_here (fl := .nx) (sto_set st hS r) h
theorem st_set {i : Nat} {x : Str} {e : Expr} {l : Lv} {q : Bool} {m : M D} {p : Pos} (h : EvOk X c e l q m) (hp : l.p = true) (hn : X.N.Nodup) (hN : X.N[i]? = some x) (hx : Loc X.env.scope x) (hf : X.fn x = true ∨ X.env.scope.names.lookup x = some .local) (hS : c.S i = false)
    (hs : swapsWith e (some (.Name x p)) pos.line X.env = pure false) : StOk X c (.Assign [.Name x p] e pos) (M.asg i m) := by
  obtain ⟨te, pe, t⟩ := h
  exact ⟨_, ps_set hn hN hx pe hs hf, fun O U σ H ρ D st fm h => tr_then t st fm h fun d v H1 ρ1 st1 _ _ rv _ h' => asg_then hS st1 (rv.p hp) h'⟩
/-- a list that this frame alone holds: by the state that avoids it -/
theorem sto_own {O : AS} {U : Nat → Option Addr} {σ : L2.St} {H : Hp} {ρ : Ev} {i : Nat} {a : Addr} {vs : List V} {ds : List D} (st : Sto c.K c.S O U σ H ρ) (t : Sto c.K c.S (fun b => O b ∨ b = a) U σ H ρ) (hS : c.S i = true) (e : H a = some (.lst vs)) (r : RpAll c.K (fun b => Av O U b ∨ b = a) H vs ds) (nO : ¬ O a) :
    Sto c.K c.S O (fun j => if j = i then some a else U j) (σ.set i (some (.ref a))) H (ρ.set i (some (.list ds))) := by
  have nU : ∀ j, U j ≠ some a := fun j u => t.out j a u (.inr rfl)
  have av : ∀ b, Av O (fun j => if j = i then some a else U j) b → Av (fun b => O b ∨ b = a) U b := by
    rintro b (z | ⟨j, z⟩)
    · exact .inl (.inl z)
    · by_cases w : j = i
      · simp only [if_pos w, Option.some.injEq] at z
        exact .inl (.inr z.symm)
      · simp only [if_neg w] at z
        exact .inr ⟨j, z⟩
  refine ⟨by rw [List.length_set, List.length_set]; exact st.len, fun j d ej n => ?_, fun j d ej n => ?_, fun j b z => ?_, fun j b z w => ?_, fun j k b z w => ?_, st.domO, fun j b z => ?_, st.tab⟩
  · have w : i ≠ j := fun w => by subst w; rw [hS] at n; cases n
    rw [List.getElem?_set_ne w] at ej
    obtain ⟨v, e1, q⟩ := t.dat j d ej n
    exact ⟨v, by rw [List.getElem?_set_ne w]; exact e1, q.imp fun b z => .inl (av b z)⟩
  · by_cases w : i = j
    · subst w
      have hl : i < ρ.length := by
        have := (List.getElem?_eq_some_iff.mp ej).1
        rwa [List.length_set] at this
      rw [List.getElem?_set_self hl] at ej
      cases ej
      refine ⟨a, ds, vs, by simp, by rw [List.getElem?_set_self (by rw [st.len]; exact hl)], rfl, e, r.imp fun b z => .inl ?_⟩
      rcases av b z with (z | z) | z
      · exact .inl (.inl z)
      · exact .inr z
      · exact .inl (.inr z)
    · rw [List.getElem?_set_ne w] at ej
      obtain ⟨b, fs, ws, u, e1, e2, e3, q⟩ := t.own j d ej n
      exact ⟨b, fs, ws, by simp only [if_neg (fun z : j = i => w z.symm)]; exact u, by rw [List.getElem?_set_ne w]; exact e1, e2, e3, q.imp fun b z => .inl (av b z)⟩
  · by_cases w : j = i
    · rw [w]; exact hS
    · simp only [if_neg w] at z; exact st.uS j b z
  · by_cases x : j = i
    · simp only [if_pos x, Option.some.injEq] at z
      rw [← z] at w
      exact nO w
    · simp only [if_neg x] at z
      exact st.out j b z w
  · by_cases x : j = i <;> by_cases y : k = i
    · rw [x, y]
    · simp only [if_pos x, if_neg y, Option.some.injEq] at z w
      subst z
      exact absurd w (nU k)
    · simp only [if_neg x, if_pos y, Option.some.injEq] at z w
      subst w
      exact absurd z (nU j)
    · simp only [if_neg x, if_neg y] at z w
      exact st.inj j k b z w
  · by_cases x : j = i
    · simp only [if_pos x, Option.some.injEq] at z
      rw [← z]; exact .of e
    · simp only [if_neg x] at z
      exact st.domU j b z
def M.setO (i : Nat) (d : D) : M Unit := fun ρ => match d with
  | .list ds => .ok () (ρ.set i (some (.list ds)))
  | _ => .bad
def M.asgO (i : Nat) (m : M D) : M Fl := m.bind fun d => (M.setO i d).bind fun _ => M.nx
theorem own_then {i : Nat} {l : Lv} {O : AS} {U : Nat → Option Addr} {σ : L2.St} {H H1 : Hp} {ρ ρ1 : Ev} {E : Ends} {v : V} {d : D} (hS : c.S i = true) (hP : c.P i = false) (hF : c.Fx i = false) (st : Sto c.K c.S O U σ H ρ) (st1 : Sto c.K c.S O U σ H1 ρ1) (k : Keep U H H1) (hf : l.f = true) (rv : RpL c.K c.P l O U H H1 (StT c U σ H1 ρ1) v d)
    (h : SRes c O U H (((M.setO i d).bind fun _ => M.nx) ρ1) E) : E.nx (σ.set i (some v)) H1 := by
  cases d with
  | list ds =>
    obtain ⟨a, vs, e1, e2, e3, r, t⟩ := rv.f hf ds rfl
    subst e1
    have st2 := sto_own st1 t hS e3 r fun z => e2 (st.domO a z)
    exact h (fun j => if j = i then some a else U j) _ H1 st2 k (Dm.of k st1.domU) fun j => by
      by_cases w : j = i
      · refine .inr ⟨by rw [w]; exact hP, by rw [w]; exact hF, fun b e => ?_⟩
        simp only [if_pos w, Option.some.injEq] at e
        rw [← e]; exact e2
      · exact .inl (by simp only [if_neg w])
  | _ => exact h.elim
/-- as tr_then, with the state ahead -/
theorem tr_then0 {α β : Type} {R : Rel β α} {te : L2.St → Hp → (β → Hp → Prop) → Prop} {q : Bool} {m : M α} {f : α → M Fl} (t : Tr c R q te m) {O : AS} {U : Nat → Option Addr} {σ : L2.St} {H : Hp} {ρ : Ev} {D : Ends} {k : β → Hp → Prop} (st : Sto c.K c.S O U σ H ρ)
    (h : SRes c O U H ((m ρ).bind f) D) (hk : ∀ d v H1 ρ1, Sto c.K c.S O U σ H1 ρ1 → Keep U H H1 → (q = true → Same H H1) → R O U H H1 (StT c U σ H1 ρ1) v d → SRes c O U H (f d ρ1) D → k v H1) : te σ H k := by
  refine t O U σ H ρ _ st ?_
  cases e : m ρ with
  | ok d ρ1 =>
    rw [e] at h
    intro v H1 st1 k1 s1 r1
    exact hk d v H1 ρ1 st1 k1 s1 r1 h
  | exc x ρ1 =>
    rw [e] at h
    intro cls dd H1 st1 k1 ex
    exact h U σ H1 cls dd st1 k1 (Dm.of k1 st1.domU) Chg.refl ex
  | bad => rw [e] at h; exact h
theorem st_setO {i : Nat} {x : Str} {e : Expr} {l : Lv} {q : Bool} {m : M D} {p : Pos} (h : EvOk X c e l q m) (hf : l.f = true) (hn : X.N.Nodup) (hN : X.N[i]? = some x) (hx : Loc X.env.scope x) (hfn : X.fn x = true ∨ X.env.scope.names.lookup x = some .local) (hS : c.S i = true) (hP : c.P i = false) (hF : c.Fx i = false)
    (hs : swapsWith e (some (.Name x p)) pos.line X.env = pure false) : StOk X c (.Assign [.Name x p] e pos) (M.asgO i m) := by
  obtain ⟨te, pe, t⟩ := h
  exact ⟨_, ps_set hn hN hx pe hs hfn, fun O U σ H ρ D st fm h => tr_then0 t st h fun d v H1 ρ1 st1 k1 _ rv h' => own_then hS hP hF st st1 k1 hf rv h'⟩
/-! targets of several names -/
def M.asgT (g : D → M Unit) (m : M D) : M Fl := m.bind fun d => (g d).bind fun _ => M.nx
theorem tg_then {O : AS} {U : Nat → Option Addr} {σ : L2.St} {H : Hp} {E : Ends} {ts : List Nat} {o : Oc Unit} {f : Unit → M Fl} {Q : L2.St → Hp → Prop} (h : SRes c O U H (o.bind f) E) (hx : ∀ x ρ', o ≠ .exc x ρ')
    (hk : ∀ σ' ρ', o = .ok () ρ' → Sto c.K c.S O U σ' H ρ' → SRes c O U H (f () ρ') E → Q σ' H) : TgR c ts O U σ H o Q := by
  cases o with
  | ok a ρ' => exact fun σ' st _ _ => hk σ' ρ' rfl st h
  | exc x ρ' => exact absurd rfl (hx x ρ')
  | bad => exact h
theorem st_tg {tg e : Expr} {l : Lv} {q : Bool} {m : M D} {ts : List Nat} {g : D → M Unit} (h : EvOk X c e l q m) (hp : l.p = true) (ht : TgOk X c tg ts g) (hs : swapsWithSole [tg] e pos.line X.env = pure false) (hw : swappedStores [tg] e X.env = pure none) (ha : asgPlain tg = true) :
    StOk X c (.Assign [tg] e pos) (M.asgT g m) := by
  obtain ⟨te, pe, t⟩ := h
  obtain ⟨⟨tt, pg, rg⟩, hg⟩ := ht
  refine ⟨_, ps_asg pe pg hs hw (by rw [assignEach_cons ha]; rfl), fun O U σ H ρ D st fm h => tr_then t st fm h fun d v H1 ρ1 st1 _ _ rv _ h' => ?_⟩
  refine rg O U σ H1 ρ1 v d _ st1 (rv.p hp) (tg_then (f := fun _ => M.nx) h' (hg d ρ1) fun σ' ρ' _ st' h'' => sres_here (fl := .nx) st' h'')
/-! a, b = x, y -/
def M.set2 (o1 o2 : Bool) (i j : Nat) (d f : D) : M Unit := ((cond o1 (M.setO i d) (M.setD i d)).bind fun _ => cond o2 (M.setO j f) (M.setD j f))
def M.par (o1 o2 : Bool) (i j : Nat) (ma mb : M D) : M Fl := ma.bind fun d => mb.bind fun f => (M.set2 o1 o2 i j d f).bind fun _ => M.nx
theorem Sto.sub {K : Fr} {S : Nat → Bool} {O O' : AS} {U : Nat → Option Addr} {σ : L2.St} {H : Hp} {ρ : Ev} (st : Sto K S O' U σ H ρ) (s : ∀ b, O b → O' b) : Sto K S O U σ H ρ :=
  ⟨st.len, fun i d e n => let ⟨v, e1, r⟩ := st.dat i d e n; ⟨v, e1, r.imp fun b z => .inl (z.imp (s b) id)⟩,
   fun i d e n => let ⟨a, ds, vs, u, e1, e2, e3, r⟩ := st.own i d e n; ⟨a, ds, vs, u, e1, e2, e3, r.imp fun b z => .inl (z.imp (s b) id)⟩, st.uS, fun i a u z => st.out i a u (s a z), st.inj, fun b z => st.domO b (s b z), st.domU, st.tab⟩
theorem ExK.sub {K : Fr} {mg : Str → Option Value} {O O' : AS} {U : Nat → Option Addr} {H : Hp} {x : Xc} {cls : Value} {dd : Option Addr} (e : ExK K mg O' U H x cls dd) (s : ∀ b, O b → O' b) : ExK K mg O U H x cls dd := by
  obtain ⟨C, h1, h2, h3⟩ := e
  refine ⟨C, h1, h2, ?_⟩
  cases ef : x.fld with
  | none => rw [ef] at h3; exact h3
  | some fd =>
    rw [ef] at h3
    obtain ⟨a, v, g1, g2, g3⟩ := h3
    exact ⟨a, v, g1, g2, g3.imp fun b z => .inl (z.imp (s b) id)⟩
abbrev ow (U : Nat → Option Addr) (i : Nat) (a : Addr) : Nat → Option Addr := fun j => if j = i then some a else U j
theorem chg_ow {U : Nat → Option Addr} {H : Hp} {i : Nat} {a : Addr} (hP : c.P i = false) (hF : c.Fx i = false) (e : ¬ Dn H a) : Chg c U (ow U i a) H := fun j => by
  by_cases w : j = i
  · refine .inr ⟨by rw [w]; exact hP, by rw [w]; exact hF, fun b z => ?_⟩
    simp only [ow, if_pos w, Option.some.injEq] at z
    rw [← z]; exact e
  · exact .inl (by simp only [ow, if_neg w])
/-- one slot of two: data, or a new list -/
structure SlotOk (c : Cn) (o : Bool) (i : Nat) (l : Lv) : Prop where
  S : c.S i = o
  own : o = true → l.f = true ∧ c.P i = false ∧ c.Fx i = false
  dat : o = false → l.p = true
theorem st_par {i j : Nat} {x y : Str} {a b : Expr} {la lb : Lv} {qa qb : Bool} {ma mb : M D} {o1 o2 : Bool} {px py pt pt2 : Pos} {kt k2 : Nat} (hc : X.calm = true) (ha : EvOk X c a la qa ma) (hb : EvOk X c b lb qb mb) (s1 : SlotOk c o1 i la) (s2 : SlotOk c o2 j lb) (hn : X.N.Nodup) (hi : X.N[i]? = some x) (hj : X.N[j]? = some y) (hij : i ≠ j)
    (hx : X.env.scope.names.lookup x = some .local) (hy : X.env.scope.names.lookup y = some .local) (nsa : notStar a = true) (nsb : notStar b = true)
    (hw : swappedStores [.Tuple [.Name x px, .Name y py] kt pt] (.Tuple [a, b] k2 pt2) X.env = pure (some [x, y])) :
    StOk X c (.Assign [.Tuple [.Name x px, .Name y py] kt pt] (.Tuple [a, b] k2 pt2) pos) (M.par o1 o2 i j ma mb) := by
  obtain ⟨ta, p1, t1⟩ := ha
  obtain ⟨tb, p2, t2⟩ := hb
  refine ⟨_, ps_par hc hn hi hj hij hx hy (pa_cons p1 (pa_cons p2 pa_nil (star_cons nsb)) (star_cons nsa)) hw rfl, fun O U σ H ρ D st fm h => ?_⟩
  refine tr_then0 (k := fun v H1 => tb σ H1 fun w H2 => ∃ v' w', [v, w] = [v', w'] ∧ D.nx ((σ.set i (some v')).set j (some w')) H2) t1 st h fun d v H1 ρ1 st1 k1 _ rv h1 => ?_
  -- what the first value keeps clear
  have key : ∃ O1 : AS, (∀ b, O b → O1 b) ∧ Sto c.K c.S O1 U σ H1 ρ1 ∧ (o1 = true → ∀ ds, d = .list ds → ∃ a vs, v = .ref a ∧ ¬ Dn H a ∧ H1 a = some (.lst vs) ∧ RpAll c.K (fun b => Av O U b ∨ b = a) H1 vs ds ∧ O1 = fun b => O b ∨ b = a) := by
    by_cases h : o1 = true ∧ ∃ ds, d = .list ds
    · obtain ⟨ho, ds, e⟩ := h
      obtain ⟨a, vs, e1, e2, e3, r, t⟩ := rv.f (s1.own ho).1 ds e
      exact ⟨_, fun b z => .inl z, t, fun _ ds' e' => by rw [e] at e'; cases e'; exact ⟨a, vs, e1, e2, e3, r, rfl⟩⟩
    · exact ⟨O, fun b z => z, st1, fun ho ds e => absurd ⟨ho, ds, e⟩ h⟩
  obtain ⟨O1, sO, st1', key⟩ := key
  have dm1 := Dm.of k1 st1.domU
  refine t2 O1 U σ H1 ρ1 _ st1' ?_
  have h1 : SRes c O U H ((mb ρ1).bind fun f => (M.set2 o1 o2 i j d f).bind fun _ => M.nx) D := h1
  cases e : mb ρ1 with
  | bad => rw [e] at h1; exact h1
  | exc x ρ2 =>
    rw [e] at h1
    intro cls dd H2 st2 k2 ex
    exact h1 U σ H2 cls dd (st2.sub sO) (k1.trans k2) (dm1.trans (Dm.of k2 st2.domU)) Chg.refl (ExK.sub ex sO)
  | ok f ρ2 =>
    rw [e] at h1
    intro w H2 st2 k2 _ rw2
    have h1 : SRes c O U H ((M.set2 o1 o2 i j d f ρ2).bind fun _ => M.nx) D := h1
    refine ⟨v, w, rfl, ?_⟩
    have kk := k1.trans k2
    have dm2 := dm1.trans (Dm.of k2 st2.domU)
    have stb := st2.sub sO
    have low : ∀ {l : Lv}, RpL c.K c.P l O1 U H1 H2 (StT c U σ H2 ρ2) w f → l.p = true → Rp c.K (Av O U) H2 w f := fun r hp => (r.p hp).imp fun b z => .inl (z.imp (sO b) id)
    cases o1 with
    | false =>
      have rv' := k2.rp (rv.p (s1.dat rfl))
      cases o2 with
      | false =>
        exact h1 U _ H2 (sto_set (sto_set stb s1.S rv') s2.S (low rw2 (s2.dat rfl))) kk dm2 Chg.refl
      | true =>
        cases f with
        | list ds =>
          obtain ⟨a, vs, e1, e2, e3, r, t⟩ := rw2.f (s2.own rfl).1 ds rfl
          subst e1
          have nOa : ¬ O a := fun z => e2 (st1.domO a z)
          have t' := (sto_set (t.sub (O := fun b => O b ∨ b = a) fun b z => z.imp (sO b) id) s1.S (rp_move (O2 := fun b => O b ∨ b = a) k2 (fun b z => by
            rcases z with (z | z) | z
            · exact .inl (.inl z)
            · exact .inr (by rw [z]; exact e2)
            · exact .inl (.inr z)) (rv.p (s1.dat rfl))))
          refine h1 (ow U j a) _ H2 (sto_own (sto_set stb s1.S rv') t' s2.S e3 (r.imp fun b z => .inl (z.imp (fun z => z.imp (sO b) id) id)) nOa) kk dm2 (chg_ow (s2.own rfl).2.1 (s2.own rfl).2.2 ?_)
          exact fun q => e2 (dm1 a q)
        | _ => exact h1.elim
    | true =>
      cases d with
      | list es =>
        obtain ⟨a1, vs1, e1, e2, e3, r1, eO⟩ := key rfl es rfl
        subst e1 eO
        have e3' : H2 a1 = some (.lst vs1) := k2 a1 _ e3 rfl (.inl fun i u => st1'.out i a1 u (.inr rfl))
        have r1' : RpAll c.K (fun b => Av O U b ∨ b = a1) H2 vs1 es := r1.mono fun b o eb t n => k2 b o eb t (n.imp (fun n i u => n (.inl (.inr ⟨i, u⟩))) id)
        have nO1 : ¬ O a1 := fun z => e2 (st.domO a1 z)
        have stA := sto_own stb st2 s1.S e3' r1' nO1
        cases o2 with
        | false =>
          have rw' : Rp c.K (Av O (ow U i a1)) H2 w f := (rw2.p (s2.dat rfl)).imp fun b z => .inl (by
            rcases z with z | ⟨k, z⟩
            · exact .inl (.inl z)
            · by_cases q : k = i
              · simp only [if_pos q, Option.some.injEq] at z
                exact .inl (.inr z.symm)
              · simp only [if_neg q] at z
                exact .inr ⟨k, z⟩)
          exact h1 (ow U i a1) _ H2 (sto_set stA s2.S rw') kk dm2 (chg_ow (s1.own rfl).2.1 (s1.own rfl).2.2 e2)
        | true =>
          cases f with
          | list ds =>
            obtain ⟨a, vs, g1, g2, g3, r, t⟩ := rw2.f (s2.own rfl).1 ds rfl
            subst g1
            have eHa : ¬ Dn H a := fun q => g2 (dm1 a q)
            have ne : a1 ≠ a := fun z => by rw [z] at e3; exact g2 (.of e3)
            have tA : Sto c.K c.S (fun b => O b ∨ b = a) (ow U i a1) (σ.set i (some (.ref a1))) H2 (ρ2.set i (some (.list es))) := by
              refine sto_own (t.sub fun b z => z.imp .inl id) (t.sub fun b z => ?_) s1.S e3' ?_ (fun z => z.elim nO1 ne)
              · rcases z with (z | z) | z
                · exact .inl (.inl z)
                · exact .inr z
                · exact .inl (.inr z)
              · refine (rpAll_move (O := fun b => O b ∨ b = a1) (O2 := fun b => (O b ∨ b = a) ∨ b = a1) (U2 := U) k2 (fun b z => ?_) (r1.imp fun b z => .inl ?_)).imp fun b z => .inl ?_
                · rcases z with ((z | z) | z) | z
                  · exact .inl (.inl (.inl z))
                  · exact .inr (by rw [z]; exact g2)
                  · exact .inl (.inl (.inr z))
                  · exact .inl (.inr z)
                · rcases z with (z | z) | z
                  · exact .inl (.inl z)
                  · exact .inr z
                  · exact .inl (.inr z)
                · rcases z with (z | z) | z
                  · exact .inl (.inl z)
                  · exact .inr z
                  · exact .inl (.inr z)
            have nOa : ¬ O a := fun z => g2 (st1.domO a z)
            refine h1 (ow (ow U i a1) j a) _ H2 (sto_own stA tA s2.S g3 (r.imp fun b z => .inl ?_) nOa) kk dm2 ((chg_ow (s1.own rfl).2.1 (s1.own rfl).2.2 e2).trans Dm.refl (chg_ow (s2.own rfl).2.1 (s2.own rfl).2.2 eHa))
            rcases z with (z | ⟨k, z⟩) | z
            · exact .inl (.inl (.inl z))
            · by_cases q : k = i
              · simp only [ow, if_pos q, Option.some.injEq] at z
                exact .inl (.inl (.inr z.symm))
              · simp only [ow, if_neg q] at z
                exact .inl (.inr ⟨k, z⟩)
            · exact .inr z
          | _ => exact h1.elim
      | _ => exact h1.elim
end
end Cr
end
section
set_option Elab.async false
set_option linter.all false
set_option maxRecDepth 100000
set_option maxHeartbeats 4000000
namespace Cr
open PySem PySem.Spec L2
set_option autoImplicit false
section
variable {X : Cx} {c : Cn} {pos : Pos}
/-! ### a op= b -/
structure IpR (X : Cx) (c : Cn) (op : Operator) (g : D → D → Option D) : Prop where
  ex : ∃ r, PIp X op r ∧ Tells X c r g
def dIAdd : D → D → Option D
  | .int i, .int j => some (.int (i + j))
  | .str a, .str b => if a.length + b.length ≤ sizeLine then some (.str (a ++ b)) else none
  | _, _ => none
theorem PIp.or {op : Operator} {r r' : R2} (h : PIp X op r) (h' : PIp X op r') : PIp X op (fun x y H Q => r x y H Q ∨ r' x y H Q) := fun pins s σ H x y v u Q I rx ry q =>
  q.elim (h pins s σ H x y v u Q I rx ry) (h' pins s σ H x y v u Q I rx ry)
theorem ip_add : IpR X c .Add dIAdd := ⟨_, PIp.or (L2.iop_add : PIp X .Add _) (L2.iop_add_str : PIp X .Add _), fun O U σ H ρ x y d f z Q st rx ry e k => by
  cases d <;> cases f <;> simp only [dIAdd, Option.some.injEq, reduceCtorEq] at e
  · subst e
    exact .inl ⟨_, _, rx.eInt, ry.eInt, k _ H st (Same.refl H) rpl_scal'⟩
  · split at e
    · cases e
      exact .inr ⟨_, _, rx.eStr, ry.eStr, by assumption, k _ H st (Same.refl H) (rpl_scal (.str _) nofun)⟩
    · cases e⟩
theorem ip_sub : IpR X c .Sub dSub := ⟨_, (L2.iop_sub : PIp X .Sub _), fun O U σ H ρ x y d f z Q st rx ry e k => by
  cases d <;> cases f <;> simp only [dSub, Option.some.injEq, reduceCtorEq] at e
  subst e
  exact ⟨_, _, rx.eInt, ry.eInt, k _ H st (Same.refl H) rpl_scal'⟩⟩
def M.aug (i : Nat) (g : D → D → Option D) (m : M D) : M Fl := (M.get i).bind fun d => m.bind fun f => (M.lift (g d f)).bind fun z => (M.setD i z).bind fun _ => M.nx
theorem st_aug {op : Operator} {g : D → D → Option D} {i : Nat} {x : Str} {e : Expr} {l : Lv} {q : Bool} {m : M D} {p : Pos} (hi : IpR X c op g) (h : EvOk X c e l q m) (ht : l.t = true) (hn : X.N.Nodup) (hN : X.N[i]? = some x) (hx : Loc X.env.scope x) (hf : X.fn x = true ∨ X.env.scope.names.lookup x = some .local) (hS : c.S i = false) :
    StOk X c (.AugAssign (.Name x p) op e pos) (M.aug i g m) := by
  obtain ⟨r, ho, hr⟩ := hi
  obtain ⟨te, pe, t⟩ := h
  refine ⟨_, ps_aug hn hN hx pe ho hf, fun O U σ H ρ D st fm h => ?_⟩
  have h : SRes c O U H ((M.get i ρ).bind fun d => m.bind fun f => (M.lift (g d f)).bind fun z => (M.setD i z).bind fun _ => M.nx) D := h
  rcases get_cases i ρ with ⟨d, e, z⟩ | z
  · rw [z] at h
    obtain ⟨v, e1, rv⟩ := st.dat i d e hS
    refine ⟨v, e1, tr_then t st fm (f := fun f => (M.lift (g d f)).bind fun z => (M.setD i z).bind fun _ => M.nx) h fun f w H1 ρ1 st1 k1 _ rw' fm1 h1 => ?_⟩
    have h1 : SRes c O U H1 ((M.lift (g d f) ρ1).bind fun z => (M.setD i z).bind fun _ => M.nx) D := h1
    unfold M.lift at h1
    cases eg : g d f with
    | none => rw [eg] at h1; exact h1.elim
    | some z =>
      rw [eg] at h1
      refine hr O U σ H1 ρ1 v w d f z _ st1 (.of (k1.rp rv)) (rw'.t ht) eg fun u H2 st2 s2 ru => ?_
      exact asg_then hS st2 (ru.p rfl) (SRes.at (Keep.of_same s2) (Dm.of (Keep.of_same (U := U) s2) st2.domU) Chg.refl h1)
  · rw [z] at h; exact h.elim
/-! ### o[i] = v -/
theorem assign_sub {o i : Expr} {env : Env} (h : plainIx i = true) : ∀ v, assign (.Subscript o i pos) env v = (do
      let ov ← holding [v] (eval o env)
      let iv ← holding [v, ov] (eval i env)
      standAt pos
      holding [v, ov, iv] (setItem ov iv v)
      release [v, ov, iv] []) := fun v => by
  cases i <;> first | rfl | (cases h; done)
def M.putIx (j : Nat) (i v : D) : M Unit := (M.get j).bind fun d => match d, i with
  | .list ds, .int k => match ixN ds.length k with
    | some n => fun ρ => .ok () (ρ.set j (some (.list (ds.set n v))))
    | none => M.bad
  | _, _ => M.bad
def M.setIx (j : Nat) (mv mi : M D) : M Fl := mv.bind fun v => (M.get j).bind fun _ => mi.bind fun i => (M.putIx j i v).bind fun _ => M.nx
theorem st_setix {j : Nat} {x : Str} {p p2 : Pos} {ei ev : Expr} {li lv : Lv} {qi qv : Bool} {mi mv : M D} (hv : EvOk X c ev lv qv mv) (hi : EvOk X c ei li qi mi) (hp : lv.p = true) (hN : X.N[j]? = some x) (hvis : Vis X.env.scope x) (hd : (x == ("__debug__" : Str)) = false) (hcd : (x == ("__classdict__" : Str)) = false) (hS : c.S j = true)
    (hix : plainIx ei = true) (hs : plainSw ev = true) : StOk X c (.Assign [.Subscript (.Name x p) ei p2] ev pos) (M.setIx j mv mi) := by
  obtain ⟨te, pe, t⟩ := hv
  obtain ⟨ti, pi, t2⟩ := hi
  have hw : swappedStores [.Subscript (.Name x p) ei p2] ev X.env = pure none := by cases ev <;> rfl
  refine ⟨_, ps_asg pe (pg_sub (pe_var hN hvis hd hcd) pi set_list (assign_sub hix)) (by unfold swapsWithSole; exact sw_plain hs) hw rfl, fun O U σ H ρ D st fm h => tr_then t st fm h fun d v H1 ρ1 st1 k1 _ rv fm1 h1 => ?_⟩
  have h1 : SRes c O U H1 ((M.get j ρ1).bind fun _ => mi.bind fun i => (M.putIx j i d).bind fun _ => M.nx) D := h1
  rcases get_cases j ρ1 with ⟨d0, e, z⟩ | z
  · rw [z] at h1
    obtain ⟨a, ds, vs, u, e1, e2, e3, r⟩ := st1.own j d0 e hS
    refine ⟨.ref a, e1, ?_⟩
    refine tr_then t2 st1 fm1 (f := fun i => (M.putIx j i d).bind fun _ => M.nx) h1 fun i w H2 ρ2 st2 k2 _ ri fm2 h2 => ?_
    rcases get_cases j ρ2 with ⟨d2, e4, z4⟩ | z4
    · obtain ⟨b, ds3, vs3, ub, _, q1, q2, q3⟩ := st2.own j _ e4 hS
      rw [u] at ub; cases ub
      subst q1
      have h2 : SRes c O U H2 (((M.get j ρ2).bind fun d' => match d', i with
        | .list ds, .int k => match ixN ds.length k with
          | some n => fun (ρ : Ev) => Oc.ok () (ρ.set j (some (.list (ds.set n d))))
          | none => M.bad
        | _, _ => M.bad).bind fun _ => M.nx) D := h2
      rw [z4] at h2
      cases i with
      | int k =>
        have h2 : SRes c O U H2 (((match ixN ds3.length k with
          | some n => fun (ρ : Ev) => Oc.ok () (ρ.set j (some (.list (ds3.set n d))))
          | none => M.bad) ρ2).bind fun _ => M.nx) D := h2
        cases hn : ixN ds3.length k with
        | none => rw [hn] at h2; exact h2.elim
        | some n =>
          rw [hn] at h2
          obtain ⟨st3, k3⟩ := sto_put st2 e4 u q2 (q3.set n (k2.rp (rv.p hp)))
          refine ⟨a, vs3, k, n, rfl, ri.b.eInt, q2, by rw [q3.length]; exact hn, ?_⟩
          exact h2 U σ _ st3 k3 (Dm.of k3 st3.domU) Chg.refl
      | _ => exact h2.elim
    · have h2 : SRes c O U H2 (((M.get j ρ2).bind fun d' => match d', i with
        | .list ds, .int k => match ixN ds.length k with
          | some n => fun (ρ : Ev) => Oc.ok () (ρ.set j (some (.list (ds.set n d))))
          | none => M.bad
        | _, _ => M.bad).bind fun _ => M.nx) D := h2
      rw [z4] at h2; exact h2.elim
  · rw [z] at h1; exact h1.elim
/-! ### while -/
def M.whl (t : M Bool) (b : M Fl) : Nat → M Fl
  | 0 => M.bad
  | n + 1 => t.bind fun x => cond x (b.bind fun fl => match fl with
    | .nx => M.whl t b n
    | .ct => M.whl t b n
    | .bk => M.nx
    | .rt d => M.pure (.rt d)) M.nx
theorem st_while {e : Expr} {body : List Stmt} {q : Bool} {mt : M Bool} {mb : M Fl} (n : Nat) (hpo : PassesOwn (model X.prog X.w) X.A X.env X.xe) (ht : TtOk X c e q mt) (hb : SsOk X c body mb) : StOk X c (.While e body [] pos) (M.whl mt mb n) := by
  obtain ⟨tt, p0, t0⟩ := ht
  obtain ⟨tb, p1, r1⟩ := hb
  refine ⟨_, ps_while hpo p0 p1, fun O U σ H ρ D st fm h => ?_⟩
  refine ⟨fun m σ H => ∃ U ρ, Sto c.K c.S O U σ H ρ ∧ Fm c U H ∧ SRes c O U H (M.whl mt mb m ρ) D, ⟨n, U, ρ, st, fm, h⟩, ?_⟩
  rintro m σ1 H1 ⟨U1, ρ1, st1, fm1, h1⟩
  cases m with
  | zero => exact h1.elim
  | succ m =>
    refine tr_then t0 st1 fm1 h1 fun x v H2 ρ2 st2 _ _ e fm2 h2 => ?_
    have e : v = x := e
    subst e
    cases v with
    | false => exact sres_here (fl := .nx) st2 h2
    | true =>
      refine ⟨fun σ H => ∃ U ρ, Sto c.K c.S O U σ H ρ ∧ Fm c U H ∧ SRes c O U H (M.whl mt mb m ρ) D, fun σ' H' ⟨U', ρ', a, b, d⟩ => ⟨m, Nat.lt_succ_self m, U', ρ', a, b, d⟩, ?_⟩
      refine r1 O U1 σ1 H2 ρ2 _ st2 fm2 (sres_bind (o := mb ρ2) h2 fun fl ρ3 U3 σ3 H3 st3 k3 d3 c3 h3 => ?_)
      cases fl with
      | nx => exact ⟨U3, ρ3, st3, fm2.next d3 c3, h3⟩
      | ct => exact ⟨U3, ρ3, st3, fm2.next d3 c3, h3⟩
      | bk => exact sres_here (fl := .nx) st3 h3
      | rt d => exact sres_here (fl := .rt d) st3 h3
/-! ### for -/
def M.forGo (gs : Gd) (tg : D → M Unit) (b : M Fl) : List D → M Fl
  | [] => fun ρ => cond (chkG gs ρ) (.ok .nx ρ) .bad
  | d :: ds => fun ρ => cond (chkG gs ρ) (((tg d).bind fun _ => b.bind fun fl => match fl with
    | .nx => M.forGo gs tg b ds
    | .ct => M.forGo gs tg b ds
    | .bk => M.nx
    | .rt v => M.pure (.rt v)) ρ) .bad
def M.for (it : M (List D × Gd)) (tg : D → M Unit) (b : M Fl) : M Fl := it.bind fun p => M.forGo p.2 tg b p.1
abbrev Cn.fix (c : Cn) (js : List Nat) : Cn := { c with Fx := fun i => c.Fx i || js.contains i }
theorem SRes.fix {O : AS} {U : Nat → Option Addr} {H : Hp} {o : Oc Fl} {E : Ends} {js : List Nat} (h : SRes c O U H o E) : SRes (c.fix js) O U H o E := by
  have w : ∀ {U'}, Chg (c.fix js) U U' H → Chg c U U' H := fun ch i => (ch i).imp id fun ⟨a, b, d⟩ => ⟨a, (Bool.or_eq_false_iff.mp b).1, d⟩
  cases o with
  | ok fl ρ' => exact fun U' σ' H' st k d ch => h U' σ' H' st k d (w ch)
  | exc x ρ' => exact fun U' σ' H' cls dd st k d ch e => h U' σ' H' cls dd st k d (w ch) e
  | bad => exact h
theorem st_for {tg iter : Expr} {body : List Stmt} {js ts : List Nat} {q : Bool} {mi : M (List D × Gd)} {g : D → M Unit} {mb : M Fl} (hpo : PassesOwn (model X.prog X.w) X.A X.env X.xe) (hc : X.calm = true) (hi : ItOk X c tg iter js q mi) (hg : TgOk X c tg ts g) (hb : SsOk X (c.fix js) body mb) (hfs : ∀ x, foldedSetIterable iter X.env x = pure x) :
    StOk X c (.For tg iter body [] pos) (M.for mi g mb) := by
  obtain ⟨wi, p0, t0⟩ := hi
  obtain ⟨⟨tt, p1, t1⟩, hne⟩ := hg
  obtain ⟨tb, p2, r2⟩ := hb
  refine ⟨_, ps_for hpo hc p0 p1 p2 hfs, fun O U σ H ρ D st fm h => tr_then t0 st fm h fun p J H1 ρ1 st1 k1 _ rI fm1 h1 => ?_⟩
  obtain ⟨gS, w⟩ := rI
  have wall : Walk J p.1.length (fun H2 => ∃ U2, Gh c.K O O U U2 H1 p.2 H2) (fun i H2 x H3 => ∀ U2, Gh c.K O O U U2 H1 p.2 H2 → L2.Same H2 H3 ∧ ∃ d, p.1[i]? = some d ∧ Rp c.K (Av O U2) H3 x d) :=
    ⟨fun i H2 hi ⟨U2, g⟩ => (w O U2).goes i H2 hi g, fun H2 ⟨U2, g⟩ => (w O U2).stops H2 g, fun i H2 x H3 hi _ y U2 g => (w O U2).yields i H2 x H3 hi g y⟩
  have ghOf : ∀ {i U2 σ2 H2 ρ2}, Sto c.K c.S O U2 σ2 H2 ρ2 → Keep U H1 H2 → Chg (c.fix js) U U2 H1 → SRes c O U2 H2 (M.forGo p.2 g mb (p.1.drop i) ρ2) D → Gh c.K O O U U2 H1 p.2 H2 := fun {i U2 σ2 H2 ρ2} st2 k2 c2 h2 => by
    have hck : chkG p.2 ρ2 = true := by
      cases q : chkG p.2 ρ2 with
      | true => rfl
      | false =>
        exfalso
        cases q2 : p.1.drop i with
        | nil => rw [q2] at h2; unfold M.forGo at h2; simp only [q, cond_false] at h2; exact h2.elim
        | cons d ds => rw [q2] at h2; unfold M.forGo at h2; simp only [q, cond_false] at h2; exact h2.elim
    refine Gh.of_chk st2 k2 (fun b z => ?_) hck fun q hq => ⟨(gS q hq).1, ?_⟩
    · rcases z with z | ⟨i, z⟩
      · exact .inl (.inl z)
      · exact (c2.new z).imp (fun z => .inr ⟨i, z⟩) id
    · rcases c2 q.1 with z | ⟨_, z, _⟩
      · exact z
      · have : (c.Fx q.1 || js.contains q.1) = false := z
        have q2 := (gS q hq).2
        rw [Bool.or_eq_false_iff] at this
        rw [List.contains_iff_mem.mpr q2] at this
        cases this.2
  refine for_it wall (fun i σ2 H2 => ∃ U2 ρ2, Sto c.K c.S O U2 σ2 H2 ρ2 ∧ Fm c U2 H2 ∧ Keep U H1 H2 ∧ Dm H1 H2 ∧ Chg (c.fix js) U U2 H1 ∧ SRes c O U2 H2 (M.forGo p.2 g mb (p.1.drop i) ρ2) D) ⟨U, ρ1, st1, fm1, Keep.refl, Dm.refl, Chg.refl, h1⟩ ?_ ?_ ?_
  · rintro i σ2 H2 hi ⟨U2, ρ2, st2, fm2, k2, d2, c2, h2⟩
    exact ⟨U2, ghOf st2 k2 c2 h2⟩
  · rintro i x σ2 H2 H3 hi ⟨U2, ρ2, st2, fm2, k2, d2, c2, h2⟩ y
    obtain ⟨sm, d, ed, rx⟩ := y U2 (ghOf st2 k2 c2 h2)
    have edrop : p.1.drop i = d :: p.1.drop (i + 1) := by
      rw [List.drop_eq_getElem_cons hi]
      have : p.1[i] = d := by rw [List.getElem?_eq_getElem hi] at ed; exact Option.some.inj ed
      rw [this]
    rw [edrop] at h2
    unfold M.forGo at h2
    cases hck : chkG p.2 ρ2 with
    | false => rw [hck] at h2; exact h2.elim
    | true =>
      rw [hck] at h2
      have h2 : SRes c O U2 H2 ((g d ρ2).bind fun _ => mb.bind fun fl => match fl with
        | .nx => M.forGo p.2 g mb (p.1.drop (i + 1))
        | .ct => M.forGo p.2 g mb (p.1.drop (i + 1))
        | .bk => M.nx
        | .rt v => M.pure (.rt v)) D := h2
      have st3 := st2.same sm
      have k23 : Keep U2 H2 H3 := Keep.of_same sm
      have d23 : Dm H2 H3 := Dm.of k23 st3.domU
      have h3 := SRes.at k23 d23 Chg.refl h2
      refine t1 O U2 σ2 H3 ρ2 x d _ st3 rx (tg_then (f := fun _ => mb.bind fun fl => match fl with
        | .nx => M.forGo p.2 g mb (p.1.drop (i + 1))
        | .ct => M.forGo p.2 g mb (p.1.drop (i + 1))
        | .bk => M.nx
        | .rt v => M.pure (.rt v)) h3 (hne d ρ2) fun σ4 ρ4 _ st4 h4 => ?_)
      have fm3 := fm2.next d23 Chg.refl
      refine r2 O U2 σ4 H3 ρ4 _ st4 ⟨fm3.z, fm3.u⟩ ?_
      have un : ∀ {U5 : Nat → Option Addr}, Chg (c.fix js) U2 U5 H3 → Chg c U2 U5 H3 := fun ch i => (ch i).imp id fun ⟨a, b, e⟩ => ⟨a, (Bool.or_eq_false_iff.mp b).1, e⟩
      have h4 : SRes c O U2 H3 ((mb ρ4).bind fun fl => match fl with
        | .nx => M.forGo p.2 g mb (p.1.drop (i + 1))
        | .ct => M.forGo p.2 g mb (p.1.drop (i + 1))
        | .bk => M.nx
        | .rt v => M.pure (.rt v)) D := h4
      cases e4 : mb ρ4 with
      | bad => rw [e4] at h4; exact h4
      | exc y ρ5 =>
        rw [e4] at h4
        exact fun U' σ' H' cls dd st k d ch e => h4 U' σ' H' cls dd st k d (un ch) e
      | ok fl ρ5 =>
        rw [e4] at h4
        intro U5 σ5 H5 st5 k5 d5 c5
        have h5 := SRes.at k5 d5 (un c5) h4
        have k15 : Keep U H1 H5 := (k2.chg c2 k23).chg (c2.trans (d2.trans d23) Chg.refl) k5
        have d15 : Dm H1 H5 := (d2.trans d23).trans d5
        have c15 : Chg (c.fix js) U U5 H1 := c2.trans (d2.trans d23) c5
        have fm5 : Fm c U5 H5 := fm3.next d5 (un c5)
        cases fl with
        | nx => exact ⟨U5, ρ5, st5, fm5, k15, d15, c15, h5⟩
        | ct => exact ⟨U5, ρ5, st5, fm5, k15, d15, c15, h5⟩
        | bk =>
          show D.nx σ5 H5
          exact sres_here (c := c) (fl := .nx) st5 h5
        | rt v =>
          show ∀ v', RetOk c O U5 H5 ρ5 v' v → D.rt v' H5
          exact sres_here (c := c) (fl := .rt v) st5 h5
  · rintro σ2 H2 ⟨U2, ρ2, st2, fm2, k2, d2, c2, h2⟩
    rw [List.drop_length] at h2
    unfold M.forGo at h2
    cases hck : chkG p.2 ρ2 with
    | false => rw [hck] at h2; exact h2.elim
    | true => rw [hck] at h2; exact sres_here (fl := .nx) st2 h2
end
end Cr
end
section
set_option Elab.async false
set_option linter.all false
set_option maxRecDepth 100000
set_option maxHeartbeats 4000000
namespace Cr
open PySem PySem.Spec L2
set_option autoImplicit false
section
variable {X : Cx} {c : Cn} {pos : Pos}
/-! ### raise -/
theorem pmk_own0 {C : Addr} {bmB : List Value} {B newId initId : String} {x : Str} {p : Pos} (F : ExcBaseFacts B newId initId bmB) (q : PySem.W.excIn X.K C bmB newId = true) (gC : X.mg x = some (.ref C))
    (kC : PySem.W.keepIn X.K (.ref C) = true) (r : Raises X (.ref C)) (hg : Gl X x) (hdb : (x == ("__debug__" : Str)) = false) : PMk X (.Call (.Name x p) [] [] pos) (fun _ H Q => Q (.ref C) none H) := by
  intro pins s σ H Q I h
  refine wpAny_Call_Name_kw (ld_glob I hg gC ?_ hdb)
  refine PySem.W.callWith_K0 I.kIn kC ?_
  show wpAny _ _ (call (.ref C) []) _ _ _
  obtain ⟨bm, N, nm, qn, bs, hdct, sn, sub, ab, col, dd, k0, k1, k2, k3, k5, mN, hC, hN, hni, T⟩ := exc_obj I.kIn q
  refine wpAny_call_exc_subT F T hC hN hni (fun h' e hm => ?_) (Nat.zero_le _)
  exact mk_of I hm r h (I.hok.gone hm.new)
/-- a class without __init__ -/
structure Ex0 (X : Cx) (x : Str) : Prop where
  ex : ∃ (C : Addr) (bmB : List Value) (B newId initId : String), ExcBaseFacts B newId initId bmB ∧ PySem.W.excIn X.K C bmB newId = true ∧ X.mg x = some (.ref C) ∧ PySem.W.keepIn X.K (.ref C) = true ∧ Raises X (.ref C)
def M.raise (x : Xc) : M Fl := fun ρ => .exc x ρ
theorem st_raise0 {x : Str} {p p2 : Pos} (F : Fit X c) (hc : X.calm = true) (tk : Takes X c.W) (h : Ex0 X x) (hg : Gl X x) (hdb : (x == ("__debug__" : Str)) = false) : StOk X c (.Raise (some (.Call (.Name x p) [] [] p2)) none pos) (M.raise ⟨x, none⟩) := by
  obtain ⟨C, bmB, B, newId, initId, h1, h2, h3, h4, h5⟩ := h
  exact ⟨_, ps_raise hc tk (pmk_own0 h1 h2 h3 h4 h5 hg hdb), fun O U σ H ρ D st fm h => h U σ H (.ref C) none st Keep.refl Dm.refl Chg.refl ⟨C, by rw [← F.mg]; exact h3, rfl, rfl⟩⟩
/-- a class whose __init__ keeps one field -/
def spI (K : Fr) (fld : Str) : Sp := fun vs H Q _ => ∃ (a C : Addr) (y : V), OexC K C ∧ PySem.W.findIn K (.ref C) fld = some none ∧ vs = [.ref a, y] ∧ H a = some (exo a C none) ∧ ∀ dx, H dx = none → dx ≠ a → Q .non (upd (upd H dx (exd dx [(fld, y)])) a (exo a C (some dx)))
structure Ex1 (X : Cx) (x fld : Str) (k : Nat) : Prop where
  ex : ∃ (C fI : Addr) (fd : FuncData) (ps : List Str), OexC X.K C ∧ PySem.W.findIn X.K (.ref C) "__init__" = some (some (.ref fI)) ∧ PySem.W.typeIn X.K (.ref fI) = some (.type "function") ∧
    FnOk X.prog X.w X.K X.mg X.base (L2.CX X.prog X.w) k fI fd ps (spI X.K fld) ∧ Binds X.K fd ps [] ∧ X.mg x = some (.ref C) ∧ PySem.W.findIn X.K (.ref C) fld = some none
def M.raise1 (x fld : Str) (m : M D) : M Fl := m.bind fun d ρ => .exc ⟨x, some (fld, d)⟩ ρ
theorem st_raise1 {x fld : Str} {k : Nat} {p p2 : Pos} {e : Expr} {l : Lv} {q : Bool} {m : M D} (F : Fit X c) (hc : X.calm = true) (tk : Takes X c.W) (h : Ex1 X x fld k) (he : EvOk X c e l q m) (hp : l.p = true) (hr : Room (k + 1) X.A) (hg : Gl X x) (hdb : (x == ("__debug__" : Str)) = false) (ns : notStar e = true) :
    StOk X c (.Raise (some (.Call (.Name x p) [e] [] p2)) none pos) (M.raise1 x fld m) := by
  obtain ⟨C, fI, fd, ps, h1, h2, h3, h4, h5, h6, h7⟩ := h
  obtain ⟨te, pe, t⟩ := he
  refine ⟨_, ps_raise hc tk (pmk_oex (dvs := []) h1 h2 h3 h4 hr h5 .nil passL hg h6 (pa_cons pe pa_nil (star_cons ns)) hdb (star_cons ns) rfl), fun O U σ H ρ D st fm h => ?_⟩
  refine tr_then t st fm h fun d v H1 ρ1 st1 k1 _ rv fm1 h' => ?_
  refine ⟨by show 1 ≤ 1000; omega, fun a ha => ?_⟩
  refine ⟨a, C, v, h1, h7, rfl, upd_same, fun dx hdx hne => ⟨rfl, dx, [(fld, v)], upd_same, ?_, ?_, ?_⟩⟩
  · rw [upd_ne hne, upd_same]
  · rw [upd_ne hne] at hdx; exact hdx
  · have hdx : H1 dx = none := by rw [upd_ne hne] at hdx; exact hdx
    have eH : (upd (del (upd (upd (upd H1 a (exo a C none)) dx (exd dx [(fld, v)])) a (exo a C (some dx))) a) dx (.xd [(fld, v)])) = upd H1 dx (.xd [(fld, v)]) := by
      funext b
      by_cases z : b = dx
      · subst z; rw [upd_same, upd_same]
      · rw [upd_ne z, upd_ne z]
        by_cases w : b = a
        · subst w; rw [del_same, ha]
        · rw [del_ne w, upd_ne w, upd_ne z, upd_ne w]
    rw [eH]
    have sm := same_new (o := .xd [(fld, v)]) hdx
    have st2 := st1.same sm
    refine h' U σ _ (.ref C) (some dx) st2 (Keep.of_same sm) (Dm.of (Keep.of_same (U := U) sm) st2.domU) Chg.refl ⟨C, by rw [← F.mg]; exact h6, rfl, ?_⟩
    exact ⟨dx, v, rfl, upd_same, (Keep.of_same sm).rp (rv.p hp)⟩
/-- such an __init__ -/
theorem init_ok {P : Program} {w : World} {K : Fr} {mg : Str → Option Value} {base : Heap} {x qual sf y fld : Str} {params : Arguments} {scope : Scope} {f : Addr} {fd : FuncData} {k : Nat} {pa pb pc pd : Pos}
    (F : FunD K x qual params [.Assign [.Attribute (.Name sf pa) fld pb] (.Name y pc) pd] scope [] [] f fd) (S : FnScope [sf, y] [sf, y] scope) (hds : (sf == ("__debug__" : Str)) = false) (hcs : (sf == ("__classdict__" : Str)) = false) (hdy : (y == ("__debug__" : Str)) = false) (hcy : (y == ("__classdict__" : Str)) = false) :
    FnOk P w K mg base (L2.CX P w) (k + 1) f fd [sf, y] (spI K fld) := by
  refine F.ok S (fun vs H Q E ⟨a, C, y, _, _, e, _⟩ => by rw [e]; rfl) fun cdv A outer s H vs Q E hr ⟨a, C, v, h1, h2, e, h3, h4⟩ => ?_
  subst e
  have vis : ∀ z ∈ [sf, y], Vis scope z := fun z hz => (S.par z hz).imp id .inl
  refine ⟨_, pss_one (ps_ost (pe_var (i := 0) rfl (vis sf (by simp)) hds hcs) (pe_var (i := 1) rfl (vis y (by simp)) hdy hcy)), ?_⟩
  refine ⟨v, rfl, .ref a, rfl, a, C, rfl, h1, h2, .inl ⟨h3, fun dx hdx hne => h4 dx hdx hne⟩⟩
/-! ### a def without parameters -/
theorem sto_avoid {K : Fr} {S : Nat → Bool} {O : AS} {U : Nat → Option Addr} {σ : L2.St} {H H' : Hp} {ρ : Ev} {a : Addr} (st : Sto K S O U σ H ρ) (sm : Same H H') (tb : LamX.Tabs (TK K) H') (hp : ¬ Dn H a) (ha : Dn H' a) : Sto K S (fun b => O b ∨ b = a) U σ H' ρ := by
  have ch2 : ∀ b, Av (fun b => O b ∨ b = a) U b → Av O U b ∨ ¬ Dn H b := fun b z => by
    rcases z with (z | z) | z
    · exact .inl (.inl z)
    · exact .inr (by rw [z]; exact hp)
    · exact .inl (.inr z)
  have st' := st.sameT sm tb
  refine ⟨st'.len, fun i d e n => ?_, fun i d e n => ?_, st'.uS, fun i a u z => ?_, st'.inj, fun b z => ?_, st'.domU, tb⟩
  · obtain ⟨v, e1, q⟩ := st.dat i d e n
    exact ⟨v, e1, (q.imp ch2).mono fun b o e t _ => sm b o e t⟩
  · obtain ⟨a, ds, ws, u, e1, e2, e3, q⟩ := st.own i d e n
    exact ⟨a, ds, ws, u, e1, e2, sm _ _ e3 rfl, (q.imp ch2).mono fun b o e t _ => sm b o e t⟩
  · rcases z with z | z
    · exact st.out i a u z
    · exact hp (by rw [← z]; exact st.domU i a u)
  · rcases z with z | z
    · exact st'.domO b z
    · rw [z]; exact ha
def M.call0 (F : List D → Oc D) : M D := fun ρ => match F [] with
  | .ok d _ => .ok d ρ
  | _ => .bad
theorem ev_call0 {x : Str} {f : Addr} {fd : FuncData} {ps : List Str} {k : Nat} {fr : Bool} {F : List D → Oc D} {p : Pos}
    (G : FnOk X.prog X.w X.K X.mg X.base (L2.CX X.prog X.w) k f fd ps (spOf c.K c.mg (fun _ => false) fr F)) (hr : Room k X.A) (hg : Gl X x) (hm : X.mg x = some (.ref f)) (hk : PySem.W.keepIn X.K (.ref f) = true) (hb : Binds X.K fd ps []) (hdb : (x == ("__debug__" : Str)) = false) :
    EvOk X c (.Call (.Name x p) [] [] pos) ⟨true, true, true, fr⟩ true (M.call0 F) := by
  refine ⟨_, pe_call0 (dvs := []) G hr hg hm hk hb .nil passL hdb, fun O U σ H ρ Q st h => ?_⟩
  refine ⟨Av O U, fun _ => none, [], ⟨rfl, nofun, nofun, nofun, nofun, nofun, fun b z => ?_, nofun, st.tab⟩, ?_⟩
  · rcases z with z | ⟨i, z⟩
    · exact st.domO b z
    · exact st.domU i b z
  · unfold M.call0 at h
    cases eF : F [] with
    | bad => rw [eF] at h; exact h.elim
    | exc y ρ' => rw [eF] at h; exact h.elim
    | ok d ρ' =>
      rw [eF] at h
      intro v H' k' tb ct rv fz
      have sm : Same H H' := fun b o e t => k' b o e t (.inl nofun)
      have av : ∀ b, Av O U b → Av (Av O U) (fun _ => none) b := fun b z => .inl z
      have g : Rp c.K (Av O U) H' v d := rv.imp fun b z => .inl (av b z)
      refine h v H' (st.sameT sm tb) (Keep.of_same sm) (fun _ => sm) ⟨g.low, fun _ => .of g, fun _ => g.imp fun b z => .inl (av_up z), fun _ => g, fun hf ds' e' => ?_⟩
      obtain ⟨a, ws, e1, e2, e3, e4, _⟩ := fz hf ds' e'
      exact ⟨a, ws, e1, e2, e3, e4.imp fun b z => .inl (z.imp (av b) id), sto_avoid st sm tb e2 (.of e3)⟩
end
/-! ### a def -/
def liveL (ios : List Nat) (ρ : Ev) : Bool := ios.all fun i => match ρ[i]? with
  | some (some (.list _)) => true
  | _ => false
def endD (ios : List Nat) : Oc Fl → Oc D
  | .ok (.rt d) ρ' => cond (liveL ios ρ') (.ok d ρ') .bad
  | .ok .nx ρ' => cond (liveL ios ρ') (.ok .none ρ') .bad
  | .exc x ρ' => cond (liveL ios ρ') (.exc x ρ') .bad
  | _ => .bad
/-- N slots, n of them parameters -/
def runD (N n : Nat) (ios : List Nat) (m : M Fl) (ds : List D) : Oc D := cond (ds.length == n) (endD ios (m (ds.map some ++ List.replicate (N - n) none))) .bad
section
variable {P : Program} {w : World} {K : Fr} {mg : Str → Option Value} {base : Heap}
theorem okC {x qual : Str} {params : Arguments} {body : List Stmt} {scope : Scope} {f : Addr} {fd : FuncData} {CX : CXT} {N ps : List Str} {k : Nat} {sp : Sp} (F : FunD K x qual params body scope [] [] f fd) (S : FnScope N ps scope) (len : ∀ vs H Q E, sp vs H Q E → vs.length = ps.length)
    (hbody : ∀ (cdv : Value) (A : Around) (outer : List Env) (s : Shared) (H : Hp) (vs : List V) (Q : VK) (E : XK), fd.code = cdv → Room k (A.deeper (PyProof.Rows.envOfC qual scope s.heap.objs.size f cdv)) → sp vs H Q E →
      ∃ t, PSs (cxOf CX P w K mg base N qual scope f cdv A outer s H E) body t ∧ t { nx := fun _ H' => Q .non H', rt := Q } (start N vs) H) : FnOk P w K mg base CX (k + 1) f fd ps sp := by
  obtain ⟨oc, od, dV, kV, doc, pm, an, cdv, ct, osl, rfl, lk, hcd, _, _⟩ := F.ex
  exact fn_of lk hcd S len fun A outer s H vs Q E hr hsp => hbody cdv A outer s H vs Q E rfl hr hsp
/-- the state relation of a def's body at a call -/
abbrev cnOf (K : Fr) (mg : Str → Option Value) (S : Nat → Bool) (ios : List Nat) (fr : Bool) (H : Hp) (E : XK) : Cn := ⟨K, mg, S, fun i => ios.contains i, fun cls d _ H => E cls d H, H, fr, fun _ => false⟩
theorem def_ok {x qual : Str} {params : Arguments} {body : List Stmt} {scope : Scope} {f : Addr} {fd : FuncData} {N ps : List Str} {k : Nat} {ios : List Nat} {fr : Bool} {S : Nat → Bool} {m : M Fl} (F : FunD K x qual params body scope [] [] f fd) (Sc : FnScope N ps scope)
    (hS : ∀ i, i < ps.length → S i = ios.contains i) (hio : ∀ i ∈ ios, i < ps.length)
    (hb : ∀ (cdv : Value) (A : Around) (outer : List Env) (s : Shared) (H : Hp) (E : XK), fd.code = cdv → Room k (A.deeper (PyProof.Rows.envOfC qual scope s.heap.objs.size f cdv)) → SsOk (cxOf (L2.CX P w) P w K mg base N qual scope f cdv A outer s H E) (cnOf K mg S ios fr H E) body m) :
    FnOk P w K mg base (L2.CX P w) (k + 1) f fd ps (spOf K mg (fun i => ios.contains i) fr (runD N.length ps.length ios m)) := by
  have lens : ∀ {vs H Q E}, spOf K mg (fun i => ios.contains i) fr (runD N.length ps.length ios m) vs H Q E → vs.length = ps.length := fun {vs H Q E} ⟨O, U, ds, st, h⟩ => by
    have e := st.len
    rw [List.length_map, List.length_map] at e
    rw [e]
    unfold runD at h
    by_cases hl : ds.length = ps.length
    · exact hl
    · rw [show (ds.length == ps.length) = false by simpa using hl] at h; exact h.elim
  refine okC F Sc (fun vs H Q E h => lens h) fun cdv A outer s H vs Q E hcd hr hsp => ?_
  have hl := lens hsp
  obtain ⟨O, U, ds, st, h⟩ := hsp
  obtain ⟨t, p, r⟩ := hb cdv A outer s H E hcd hr
  refine ⟨t, p, ?_⟩
  have le := st.len
  rw [List.length_map, List.length_map] at le
  have hds : ds.length = ps.length := by omega
  have hN : ps.length ≤ N.length := by have := congrArg List.length Sc.pre; rw [List.length_take] at this; omega
  have hio' : ∀ {i}, ps.length ≤ i → ios.contains i = false := fun {i} hi => by
    cases q : ios.contains i with
    | false => rfl
    | true => have := hio i (List.contains_iff_mem.mp q); omega
  unfold runD at h
  rw [show (ds.length == ps.length) = true by simpa using hds] at h
  simp only [cond_true] at h
  have get0 : ∀ (i : Nat) (d : D), (ds.map some ++ List.replicate (N.length - ps.length) (none : Option D))[i]? = some (some d) → i < ps.length ∧ (ds.map some)[i]? = some (some d) := fun i d e => by
    by_cases hi : i < (ds.map some).length
    · rw [List.getElem?_append_left hi] at e
      exact ⟨by rw [List.length_map] at hi; omega, e⟩
    · rw [List.getElem?_append_right (by omega), List.getElem?_replicate] at e
      split at e <;> cases e
  have getS : ∀ (i : Nat), i < ps.length → (L2.start N vs)[i]? = (vs.map some)[i]? := fun i hi => by
    unfold L2.start
    rw [List.getElem?_append_left (by rw [List.length_map]; omega)]
  have st0 : Sto K S O U (L2.start N vs) H (ds.map some ++ List.replicate (N.length - ps.length) none) := by
    refine ⟨by unfold L2.start; simp; omega, fun i d e n => ?_, fun i d e n => ?_, fun i a u => ?_, st.out, st.inj, st.domO, st.domU, st.tab⟩
    · obtain ⟨hi, e⟩ := get0 i d e
      rw [getS i hi]
      exact st.dat i d e (by rw [← hS i hi]; exact n)
    · obtain ⟨hi, e⟩ := get0 i d e
      rw [getS i hi]
      exact st.own i d e (by rw [← hS i hi]; exact n)
    · have := st.uS i a u
      rw [hS i (hio i (List.contains_iff_mem.mp this))]
      exact this
  have fm : Fm (cnOf K mg S ios fr H E) U H := ⟨fun b z => z, fun i b p u => by
    have := st.uS i b u
    have p : ios.contains i = false := p
    rw [p] at this; cases this⟩
  -- behind: the parameters' lists are the same
  have upE : ∀ {U'}, Chg (cnOf K mg S ios fr H E) U U' H → ∀ i, UP (fun i => ios.contains i) U' i = U i := fun {U'} ch i => by
    unfold UP
    by_cases q : ios.contains i = true
    · rw [if_pos q]
      rcases ch i with z | ⟨z, _⟩
      · exact z
      · have z : ios.contains i = false := z
        rw [q] at z; cases z
    · rw [if_neg q]
      cases u : U i with
      | none => rfl
      | some a => exact absurd (st.uS i a u) q
  have upF : ∀ {U'}, Chg (cnOf K mg S ios fr H E) U U' H → UP (fun i => ios.contains i) U' = U := fun ch => funext (upE ch)
  have cont : ∀ {U' σ' H' ρ'}, Chg (cnOf K mg S ios fr H E) U U' H → Sto K S O U' σ' H' ρ' → liveL ios ρ' = true → Cont K O U H' ρ' := fun {U' σ' H' ρ'} ch st' lv i a u => by
    have q := st.uS i a u
    have lv := List.all_eq_true.mp lv i (List.contains_iff_mem.mp q)
    have u' : U' i = some a := by
      rcases ch i with z | ⟨z, _⟩
      · rw [z]; exact u
      · have z : ios.contains i = false := z
        rw [q] at z; cases z
    split at lv
    · rename_i es e
      obtain ⟨b, es', ws, ub, _, g1, g2, g3⟩ := st'.own i _ e (st'.uS i a u')
      rw [u'] at ub; cases ub
      cases g1
      refine ⟨es, ws, e, g2, g3.imp fun b z => .inl ?_⟩
      rcases z with z | ⟨j, z⟩
      · exact .inl z
      · have qj := st.uS j b z
        rcases ch j with y | ⟨y, _⟩
        · exact .inr ⟨j, by rw [y]; exact z⟩
        · have y : ios.contains j = false := y
          rw [qj] at y; cases y
    · cases lv
  refine r O U (L2.start N vs) H _ _ st0 fm ?_
  have fin : ∀ {U' σ' H' ρ' v d}, Chg (cnOf K mg S ios fr H E) U U' H → Sto K S O U' σ' H' ρ' → liveL ios ρ' = true → RetOk (cnOf K mg S ios fr H E) O U' H' ρ' v d →
      Rp K (Av O U) H' v d ∧ (fr = true → ∀ es, d = .list es → ∃ a ws, v = .ref a ∧ ¬ Dn H a ∧ H' a = some (.lst ws) ∧ RpAll K (fun b => Av O U b ∨ b = a) H' ws es ∧ Cont K (fun b => O b ∨ b = a) U H' ρ') := fun {U' σ' H' ρ' v d} ch st' lv ⟨r1, r2⟩ => by
    have e := upF ch
    have r1 : Rp K (Av O (UP (fun i => ios.contains i) U')) H' v d := r1
    rw [e] at r1
    refine ⟨r1, fun hf es ed => ?_⟩
    obtain ⟨a, ws, g1, g2, g3, g4, g5⟩ := r2 hf es ed
    have g4 : RpAll K (fun b => Av O (UP (fun i => ios.contains i) U') b ∨ b = a) H' ws es := g4
    have g5 : ∀ i b fs, UP (fun i => ios.contains i) U' i = some b → ρ'[i]? = some (some (.list fs)) → ∃ ws, H' b = some (.lst ws) ∧ RpAll K (Av (fun b => O b ∨ b = a) (UP (fun i => ios.contains i) U')) H' ws fs := g5
    rw [e] at g4 g5
    refine ⟨a, ws, g1, g2, g3, g4, fun i b u => ?_⟩
    obtain ⟨fs, _, e1, _⟩ := cont ch st' lv i b u
    obtain ⟨xs, e2, e3⟩ := g5 i b fs u e1
    exact ⟨fs, xs, e1, e2, e3⟩
  show SRes (cnOf K mg S ios fr H E) O U H (m (ds.map some ++ List.replicate (N.length - ps.length) none)) _
  cases em : m (ds.map some ++ List.replicate (N.length - ps.length) none) with
  | bad => rw [em] at h; exact h.elim
  | exc y ρ' =>
    rw [em] at h
    dsimp only [endD] at h
    intro U' σ' H' cls dd st' k d ch ex
    cases lv : liveL ios ρ' with
    | false => simp only [lv] at h; exact h.elim
    | true =>
      simp only [lv] at h
      refine h cls dd H' k st'.tab (cont ch st' lv) ?_
      obtain ⟨C, h1, h2, h3⟩ := ex
      refine ⟨C, h1, h2, ?_⟩
      cases ef : y.fld with
      | none => rw [ef] at h3; exact h3
      | some fd =>
        rw [ef] at h3
        obtain ⟨a, v, g1, g2, g3⟩ := h3
        refine ⟨a, v, g1, g2, g3.imp fun b z => .inl ?_⟩
        rcases z with z | ⟨j, z⟩
        · exact .inl z
        · have qj := st.uS j b z
          rcases ch j with y | ⟨y, _⟩
          · exact .inr ⟨j, by rw [y]; exact z⟩
          · have y : ios.contains j = false := y
            rw [qj] at y; cases y
  | ok fl ρ' =>
    rw [em] at h
    intro U' σ' H' st' k d ch
    dsimp only [endD] at h
    cases fl with
    | bk => exact h.elim
    | ct => exact h.elim
    | nx =>
      cases lv : liveL ios ρ' with
      | false => simp only [lv] at h; exact h.elim
      | true =>
        simp only [lv] at h
        exact h .non H' k st'.tab (cont ch st' lv) .non fun _ es e => by cases e
    | rt v =>
      cases lv : liveL ios ρ' with
      | false => simp only [lv] at h; exact h.elim
      | true =>
        simp only [lv] at h
        intro u ru
        obtain ⟨f1, f2⟩ := fin ch st' lv ru
        exact h u H' k st'.tab (cont ch st' lv) f1 f2
end
end Cr
end
section
set_option Elab.async false
set_option linter.all false
set_option maxRecDepth 100000
set_option maxHeartbeats 4000000
namespace Cr
open PySem PySem.Spec L2 PyProof.Rows
set_option autoImplicit false
/-! ### several except clauses, with or without a name (the proofs of HandS.TryMany and of ps_try_as, put together) -/
def aftE (i : Nat) (D : Ends) : Ends := { nx := fun σ' H' => D.nx (σ'.set i none) H', rt := D.rt, bk := fun σ' H' => D.bk (σ'.set i none) H', ct := fun σ' H' => D.ct (σ'.set i none) H' }
def wTry (K : Fr) (Wout : WX) (D : Ends) : List (Value × Option Nat × (Addr → Value → Option Addr → TS)) → WX
  | [] => Wout
  | (c, none, ts) :: r => fun cls d σ H => ∃ b, PySem.W.exmOne K cls c = some b ∧ (b = true → ∀ a, H a = none → ts a cls d D σ H) ∧ (b = false → wTry K Wout D r cls d σ H)
  | (c, some i, ts) :: r => fun cls d σ H => ∃ b, PySem.W.exmOne K cls c = some b ∧ (b = true → ∀ a, H a = none → ts a cls d { nx := fun σ' H' => D.nx (σ'.set i none) H', rt := D.rt, bk := fun σ' H' => D.bk (σ'.set i none) H', ct := fun σ' H' => D.ct (σ'.set i none) H' } (σ.set i (some (.ref a))) H) ∧ (b = false → wTry K Wout D r cls d σ H)
inductive HdsT (X : Cx) : List ExceptHandler → List (Value × Option Nat × (Addr → Value → Option Addr → TS)) → Prop
  | nil : HdsT X [] []
  | cons {x : Str} {c : Value} {ts : Addr → Value → Option Addr → TS} {b₀ : Stmt} {suite : List Stmt} {np pos' : Pos} {hds : List ExceptHandler} {l : List (Value × Option Nat × (Addr → Value → Option Addr → TS))} (hc : Names X x c)
      (hsu : ∀ (a : Addr) (oe : Obj) (cls : Value) (d : Option Addr) (pn : List (Addr × Obj)), Zc cls d oe → (∃ vs, oe.data = .fields vs) → PSs (X.suite a ((a, oe) :: pn)) (b₀ :: suite) (ts a cls d)) (r : HdsT X hds l) :
      HdsT X (.ExceptHandler (some (.Name x np)) none (b₀ :: suite) pos' :: hds) ((c, none, ts) :: l)
  | consAs {x n : Str} {i : Nat} {c : Value} {ts : Addr → Value → Option Addr → TS} {b₀ : Stmt} {suite : List Stmt} {np pos' : Pos} {hds : List ExceptHandler} {l : List (Value × Option Nat × (Addr → Value → Option Addr → TS))} (hi : X.N[i]? = some n) (hln : X.env.kindOf n = some .local) (hc : Names X x c)
      (hsu : ∀ (a : Addr) (oe : Obj) (cls : Value) (d : Option Addr) (pn : List (Addr × Obj)), Zc cls d oe → (∃ vs, oe.data = .fields vs) → PSs (X.suite a ((a, oe) :: pn)) (b₀ :: suite) (ts a cls d)) (r : HdsT X hds l) :
      HdsT X (.ExceptHandler (some (.Name x np)) (some n) (b₀ :: suite) pos' :: hds) ((c, some i, ts) :: l)
section
variable {X : Cx} {body : List Stmt} {h₀ : ExceptHandler} {hds : List ExceptHandler} {l : List (Value × Option Nat × (Addr → Value → Option Addr → TS))} {pos : Pos} {tb : WX → TS} {Wout : WX}
theorem ps_try_t (hs : X.stack = X.env :: X.outer) (hf : X.env.frame = some X.env.locals) (hN : X.N.Nodup) (tk : L2.Takes X Wout)
    (hb : ∀ (W : WX) (pn : List (Addr × Obj)) (xe : Value → Shared → Prop), L2.Takes (X.tr pn xe) W → PassesOwn (model X.prog X.w) X.A X.env xe → PSs (X.tr pn xe) body (tb W))
    (hh : HdsT X (h₀ :: hds) l) : PS X (.Try body (h₀ :: hds) [] [] pos) (fun D σ H => tb (wTry X.K Wout D l) D σ H) := by
  refine ⟨fun pins s σ H D I h => ?_⟩
  have ok := I.ok
  have hfr : X.A.frames = some (X.env :: X.outer) := by rw [ok.frames, hs]
  refine wpAny_Try_except ?_
  refine wpAny_mono ((hb (wTry X.K Wout D l) (X.pn ++ pins) (fun e s₁ => wpAny (model X.prog X.w) X.A (noteFrame e X.env) (fun _ s₂ => wpAny (model X.prog X.w) X.A (setFlight e none) (fun _ s₃ =>
    wpAny (model X.prog X.w) X.A (handleBy e X.env (h₀ :: hds)) (SP X pins D) X.xe s₃) X.xe s₂) X.xe s₁) (fun u s' xx => ?_) PassesOwn.looking).run [] s σ H D (I.toTry _) h) (fun f s1 hsp => ?_) (fun e s1 he => he)
  · -- the catch
    obtain ⟨a, B, sI, pins', σ', H', cls, d, rfl, J', nb, up, sky, na, os, ag, w⟩ := xx
    have J : Inv X pins σ' H' sI := J'.ofTry ok
    have sky' : Sky B (X.env :: X.outer) a (Zc cls d) X.env.locals s'.heap := by rw [← hs]; exact sky
    show wpAny (model X.prog X.w) X.A (noteFrame (.ref a) X.env) _ _ _
    refine Sky.land Zc.steady hfr hf sky' fun h3 fl3 up3 => ?_
    have J3 : Inv X pins σ' H' { s' with heap := h3 } := J.landed nb fl3.1 (up.trans up3) os ag
    obtain ⟨oe3, vs3, he3, hz3, hd3⟩ := fl3.there
    have notFr : ∀ {h : Heap} {o : Obj} {vs : Array Value}, h.FunFrames B (X.env :: X.outer) → h.get? a = some o → o.data = .fields vs → a ∉ frs (X.env :: X.outer) := fun {h o vs} ff e dd hm => by
      obtain ⟨_, o', e', hnf⟩ := ff.mem hm
      rw [e] at e'; cases e'
      exact hnf _ dd
    have nfr := notFr fl3.2.2.1 he3 hd3
    have nL : a ≠ X.env.locals := fun z => nfr (List.mem_filterMap.mpr ⟨X.env, List.mem_cons_self, by rw [hf, z]⟩)
    have nF : a ∉ X.fs := fun hm => by
      obtain ⟨e, he, q⟩ := List.mem_filterMap.mp hm
      exact nfr (List.mem_filterMap.mpr ⟨e, List.mem_cons_of_mem _ he, q⟩)
    have S3 := J3.suite he3 hd3 na nL nF
    have go : ∀ {hds' : List ExceptHandler} {l' : List (Value × Option Nat × (Addr → Value → Option Addr → TS))}, HdsT X hds' l' → wTry X.K Wout D l' cls d σ' H' →
        wpAny (model X.prog X.w) X.A (handleBy (.ref a) X.env hds') (SP X pins D) X.xe { s' with heap := h3 } := by
      intro hds' l' hk
      induction hk with
      | nil =>
        intro w
        refine wpAny_handleBy_nil ?_
        obtain ⟨k1, k2, k3, oe, vs, T, oT, ts', he, hz, hd, h1, hr⟩ := id fl3
        unfold PySem.passOn
        refine wpAny_bind (wpAny_field he hd h1 ?_)
        rw [if_neg (show ¬ ((Value.ref T == Value.none) = true) from by simp)]
        have fin : wpAny (model X.prog X.w) X.A (setFlight (.ref a) X.env.frame) (fun _ s4 => wpAny (model X.prog X.w) X.A (throw (.ref a) : Sem Flow) (SP X pins D) X.xe s4) X.xe { s' with heap := h3 } := by
          rw [hf]
          refine HandSPX.setFlight_upZ fl3 fun h4 hh4 up4 => wpAny_throw (tk _ _ ?_)
          exact ⟨a, B, sI, pins, σ', H', cls, d, rfl, J, nb, (up.trans up3).trans up4, .inr (.inr (by rw [hs]; exact hh4)), na, os, ag, w⟩
        first
          | exact wpAny_bind (wpAny_pure (wpAny_bind fin))
          | exact wpAny_bind fin
      | @cons x c ts b₀ suite np pos' hds2 l2 hc hsu r ih =>
        intro w
        obtain ⟨b, hb1, hyes, hno⟩ := w
        refine wpAny_handleBy_cons (codeAny_handlers_test ?_) (by intro q; cases q)
        have LT : PySem.W.Looks (model X.prog X.w) h3 (typeOf (.ref a)) cls := fun A Q E s k q => wpAny_typeOf_ref (k _ _ he3) (by rw [hz3.1]; exact q)
        have LM := PySem.W.exm_one (M := model X.prog X.w) (J3.kIn) LT hb1
        have test : ∀ {Q : Value → Shared → Prop} {E : Value → Shared → Prop}, Q c { s' with heap := h3 } → wpAny (model X.prog X.w) (X.A.mark (some (.ref a))) (eval (.Name x np) X.env) Q E { s' with heap := h3 } := fun {Q E} q => by
          obtain ⟨hg, hdbg, hm | ⟨hm, hv, hnn⟩⟩ := hc
          · exact ld_glob (X := X.suite a ((a, oe3) :: (X.pn ++ pins))) S3 hg hm q hdbg
          · exact ld_blt (X := X.suite a ((a, oe3) :: (X.pn ++ pins))) S3 hg hm hv q hnn hdbg
        refine test (LM.here ?_)
        cases b with
        | true =>
          refine codeAny_handlers_suite ?_
          refine HandSPX.lands_againZ fl3 fun h4 fl4 up4 => ?_
          have J4 : Inv X pins σ' H' { s' with heap := h4 } := J.landed nb fl4.1 ((up.trans up3).trans up4) os ag
          obtain ⟨oe4, vs4, he4, hz4, hd4⟩ := fl4.there
          have S4 := J4.suite he4 hd4 na nL nF
          refine wpAny_mono ((hsu a oe4 cls d (X.pn ++ pins) hz4 ⟨_, hd4⟩).run [] _ _ H' _ S4 (hyes rfl a na)) (fun f s6 hsp => ?_) (fun _ _ z => False.elim z)
          cases f with
          | next =>
            obtain ⟨σ6, H6, S6, q6⟩ := hsp
            exact ⟨_, _, S6.unsuite ok, q6⟩
          | brk =>
            obtain ⟨σ6, H6, S6, q6⟩ := hsp
            exact ⟨_, _, S6.unsuite ok, q6⟩
          | cont =>
            obtain ⟨σ6, H6, S6, q6⟩ := hsp
            exact ⟨_, _, S6.unsuite ok, q6⟩
          | ret u =>
            obtain ⟨v6, σ6, H6, S6, r6, q6⟩ := hsp
            exact ⟨_, _, _, S6.unsuite ok, r6, q6⟩
        | false =>
          show wpAny _ X.A (handleBy (.ref a) X.env hds2) _ _ _
          exact ih (hno rfl)
      | @consAs x n i c ts b₀ suite np pos' hds2 l2 hi hln hc hsu r ih =>
        intro w
        obtain ⟨b, hb1, hyes, hno⟩ := w
        refine wpAny_handleBy_cons (codeAny_handlers_test ?_) (by intro q; cases q)
        have LT : PySem.W.Looks (model X.prog X.w) h3 (typeOf (.ref a)) cls := fun A Q E s k q => wpAny_typeOf_ref (k _ _ he3) (by rw [hz3.1]; exact q)
        have LM := PySem.W.exm_one (M := model X.prog X.w) (J3.kIn) LT hb1
        have test : ∀ {Q : Value → Shared → Prop} {E : Value → Shared → Prop}, Q c { s' with heap := h3 } → wpAny (model X.prog X.w) (X.A.mark (some (.ref a))) (eval (.Name x np) X.env) Q E { s' with heap := h3 } := fun {Q E} q => by
          obtain ⟨hg, hdbg, hm | ⟨hm, hv, hnn⟩⟩ := hc
          · exact ld_glob (X := X.suite a ((a, oe3) :: (X.pn ++ pins))) S3 hg hm q hdbg
          · exact ld_blt (X := X.suite a ((a, oe3) :: (X.pn ++ pins))) S3 hg hm hv q hnn hdbg
        refine test (LM.here ?_)
        cases b with
        | true =>
          refine codeAny_handlers_suite_as ?_
          refine HandSPX.lands_againZ fl3 fun h4 fl4 up4 => ?_
          have J4 : Inv X pins σ' H' { s' with heap := h4 } := J.landed nb fl4.1 ((up.trans up3).trans up4) os ag
          obtain ⟨oe4, vs4, he4, hz4, hd4⟩ := fl4.there
          have S4 := J4.suite he4 hd4 na nL nF
          have hloc : Loc X.env.scope n := .inl hln
          refine store_ok (X := X.suite a ((a, oe4) :: (X.pn ++ pins))) (v := .ref a) S4 hN hi hloc rfl (fun s5 S5 => ?_) (.inr hln)
          refine wpAny_mono ((hsu a oe4 cls d (X.pn ++ pins) hz4 ⟨_, hd4⟩).run [] s5 _ H' _ S5 (hyes rfl a na)) (fun f s6 hsp => ?_) (fun _ _ z => False.elim z)
          have end_ : ∀ {σ6 : L2.St} {H6 : Hp} {Q : Shared → Prop}, Inv (X.suite a ((a, oe4) :: (X.pn ++ pins))) [] σ6 H6 s6 → (∀ s7, Inv X pins (σ6.set i none) H6 s7 → Q s7) →
              wpAny (model X.prog X.w) X.A (do bindName X.env n .none; unbindBehindTheSuite X.env n pos') (fun _ s7 => Q s7) X.xe s6 := fun {σ6 H6 Q} S6 hq => gone_ok (S6.unsuite ok) hN hi hln hq
          cases f with
          | next =>
            obtain ⟨σ6, H6, S6, q6⟩ := hsp
            exact end_ S6 fun s7 J7 => ⟨_, _, J7, q6⟩
          | brk =>
            obtain ⟨σ6, H6, S6, q6⟩ := hsp
            exact end_ S6 fun s7 J7 => ⟨_, _, J7, q6⟩
          | cont =>
            obtain ⟨σ6, H6, S6, q6⟩ := hsp
            exact end_ S6 fun s7 J7 => ⟨_, _, J7, q6⟩
          | ret u =>
            obtain ⟨v6, σ6, H6, S6, r6, q6⟩ := hsp
            exact end_ S6 fun s7 J7 => ⟨_, _, _, J7, r6, q6⟩
        | false =>
          show wpAny _ X.A (handleBy (.ref a) X.env hds2) _ _ _
          exact ih (hno rfl)
    exact go hh w
  · cases f with
    | next =>
      obtain ⟨σ', H', J', q⟩ := hsp
      exact wpAny_execs_nil ⟨σ', H', J'.ofTry ok, q⟩
    | brk =>
      obtain ⟨σ', H', J', q⟩ := hsp
      exact ⟨σ', H', J'.ofTry ok, q⟩
    | cont =>
      obtain ⟨σ', H', J', q⟩ := hsp
      exact ⟨σ', H', J'.ofTry ok, q⟩
    | ret u =>
      obtain ⟨v, σ', H', J', r, q⟩ := hsp
      exact ⟨v, σ', H', J'.ofTry ok, r, q⟩
end
end Cr
end
section
set_option Elab.async false
set_option linter.all false
set_option maxRecDepth 100000
set_option maxHeartbeats 4000000
namespace Cr
open PySem PySem.Spec L2
set_option autoImplicit false
/-! ### the mirror of an expression, by its text -/
structure FnI where
  io : List Nat
  fr : Bool
  lv : Nat
  F : List D → Oc D
inductive Gk where
  | con (d : D)
  | fn (vs : List FnI)
  | ex0
  | ex1 (fld : Str) (k : Nat)
  | lamw (w : Str) (h : Xc → Option D)
structure Sx where
  N : List Str
  sc : Scope
  full : Bool
  S : List Nat
  P : List Nat
  Fx : List Nat
  fr : Bool
  lv : Nat
  calm : Bool
  H : List (Str × List Str)
  G : List (Str × Gk)
  lam : Bool
def bltL : List Str := ["len", "int", "abs", "ord", "str", "tuple", "list", "all", "any", "sum", "max", "min", "isinstance", "enumerate", "zip", "range", "bool", "dict"]
def M.lamW (w : Str) (h : Xc → Option D) (m : M D) : M D := fun ρ => match m ρ with
  | .ok _ ρ1 => .ok (.str w) ρ1
  | .exc x ρ1 => (match h x with
    | some d => .ok d ρ1
    | none => .bad)
  | .bad => .bad
/-- the lambda's body, as asked -/
def tLb (c : Cn) (l : Lv) (q : Bool) (m : M D) (E : XK) : TE := fun σ H Q => ∃ O U ρ, Sto c.K c.S O U σ H ρ ∧ Res { c with W := fun cls d _ H => E cls d H } (RpL c.K c.P l) O U σ H q (m ρ) Q
/-- a def that calls what it got: word = w; try: call() except ..: ..; return word -/
def LamwOk (P : Program) (w : World) (K : Fr) (mg : Str → Option Value) (base : Heap) (x : Str) (wd : Str) (h : Xc → Option D) : Prop :=
  ∃ (g : Addr) (pg : Arguments) (bg : List Stmt) (sg : Scope) (dV kV doc pm cdv ct oc : Value) (an od : Option Addr) (osl : Array (Option Value)) (Ng : List Str) (a : Str),
    mg x = some (.ref g) ∧ PySem.W.keepIn K (.ref g) = true ∧ K.lookup g = some ⟨oc, od, .func (PySem.W.fnOf x x pg bg sg dV kV doc pm an cdv ct), osl⟩ ∧ PySem.W.codeIn K cdv x = true ∧ L2.Binds K (PySem.W.fnOf x x pg bg sg dV kV doc pm an cdv ct) [a] [] ∧ FnScope Ng [a] sg ∧ Ng[0]? = some a ∧ Vis sg a ∧
    (a == ("__debug__" : Str)) = false ∧ (a == ("__classdict__" : Str)) = false ∧
    ∀ X : Cx, X.prog = P → X.w = w → X.K = K → X.mg = mg → X.base = base → (∀ s : Shared, (X.A.deeper (PyProof.Rows.envOfC x sg s.heap.objs.size g cdv)).units + 65 < cLine) → ∃ TT : (XK → Hp → VK → Prop) → Hp → VK → Prop, (∀ q, LamX.GivesTo X Ng x sg g cdv bg a q TT) ∧
      ∀ (c : Cn) (l : Lv) (q : Bool) (m : M D) (O : AS) (U : Nat → Option Addr) (σ : L2.St) (H : Hp) (ρ : Ev) (Q : VK), c.K = K → c.mg = mg → Sto c.K c.S O U σ H ρ → Res c (RpL c.K c.P .pur) O U σ H false (M.lamW wd h m ρ) Q → TT (fun E H' Q' => tLb c l q m E σ H' Q') H Q
section
variable (P : Program) (w : World) (K : Fr) (mg : Str → Option Value) (base : Heap)
def GkOk (x : Str) : Gk → Prop
  | .con d => (∃ u v, mg x = some u ∧ RelV v u ∧ ∀ A H, Rp K A H v d) ∧ ∀ ds, d ≠ .list ds
  | .fn vs => ∃ (f : Addr) (fd : FuncData) (ps : List Str), mg x = some (.ref f) ∧ PySem.W.keepIn K (.ref f) = true ∧ Binds K fd ps [] ∧ ∀ i ∈ vs, FnOk P w K mg base (L2.CX P w) i.lv f fd ps (spOf K mg (fun j => i.io.contains j) i.fr i.F)
  | .lamw wd h => LamwOk P w K mg base x wd h
  | .ex0 => ∃ (C : Addr) (bmB : List Value) (B newId initId : String), ExcBaseFacts B newId initId bmB ∧ PySem.W.excIn K C bmB newId = true ∧ mg x = some (.ref C) ∧ PySem.W.keepIn K (.ref C) = true ∧ PySem.W.subIn K (.ref C) (.type "BaseException") = some true ∧ PySem.W.typeIn K (.ref C) = some (.type "type")
  | .ex1 fld k => ∃ (C fI : Addr) (fd : FuncData) (ps : List Str), OexC K C ∧ PySem.W.findIn K (.ref C) "__init__" = some (some (.ref fI)) ∧ PySem.W.typeIn K (.ref fI) = some (.type "function") ∧
    FnOk P w K mg base (L2.CX P w) k fI fd ps (spI K fld) ∧ Binds K fd ps [] ∧ mg x = some (.ref C) ∧ PySem.W.findIn K (.ref C) fld = some none
structure GOk (G : List (Str × Gk)) : Prop where
  k : ∀ p ∈ G, GkOk P w K mg base p.1 p.2
  b : ∀ x ∈ bltL, mg x = none
end
/-- the own exception classes: each with those it is of -/
structure XOk (K : Fr) (mg : Str → Option Value) (H : List (Str × List Str)) : Prop where
  at_ : ∀ p ∈ H, ∃ C, mg p.1 = some (.ref C) ∧ ExcC K C ∧ XfC K C ∧ ∀ q ∈ H, ∃ C', mg q.1 = some (.ref C') ∧ PySem.W.exmOne K (.ref C) (.ref C') = some (p.2.contains q.1) ∧ PySem.W.kitOne K (.ref C) (.ref C') = some (p.2.contains q.1)
/-- where lambdas are made -/
def LamC (X : Cx) : Prop := ∃ cc T, LamX.TabB X.base X.mg cc T ∧ X.env.code = .ref cc ∧ (T, X.env.qual ++ "<lambda>") ∈ TK X.K ∧ ∀ p ∈ TK X.K, p.1 = T → p.2 = X.env.qual ++ "<lambda>"
structure CtxOk (X : Cx) (c : Cn) (s : Sx) : Prop where
  F : Fit X c
  tk : Takes X c.W
  hc : s.calm = true → X.calm = true
  N : X.N = s.N
  nd : s.N.Nodup
  sc : X.env.scope = s.sc
  fn : s.full = true → ∀ x, X.fn x = true
  hu : X.A.units + 65 < cLine
  hr : s.calm = true → Room s.lv X.A
  S : c.S = fun i => s.S.contains i
  P : c.P = fun i => s.P.contains i
  Fx : c.Fx = fun i => s.Fx.contains i
  fr : c.fr = s.fr
  G : GOk X.prog X.w X.K X.mg X.base s.G
  H : XOk X.K X.mg s.H
  L : s.lam = true → LamC X
/-! names -/
def slotGo (x : Str) : List Str → Nat → Option Nat
  | [], _ => none
  | y :: r, i => if y == x then some i else slotGo x r (i + 1)
theorem slotGo_some {x : Str} : ∀ {N : List Str} {i j : Nat}, slotGo x N i = some j → ∃ k, j = i + k ∧ N[k]? = some x
  | [], _, _, h => by cases h
  | y :: r, i, j, h => by
    unfold slotGo at h
    split at h
    · cases h
      exact ⟨0, rfl, by rw [← beq_iff_eq.mp (by assumption : (y == x) = true)]; rfl⟩
    · obtain ⟨k, e, q⟩ := slotGo_some h
      exact ⟨k + 1, by omega, by simpa using q⟩
def okNm (x : Str) : Bool := !(x == ("__debug__" : Str)) && !(x == ("__classdict__" : Str))
def visB (s : Sx) (x : Str) : Bool := match s.sc.names.lookup x with
  | some .local => true
  | some .cell => true
  | some .free => true
  | _ => false
def locB (s : Sx) (x : Str) : Bool := match s.sc.names.lookup x with
  | some .local => true
  | some .cell => s.full
  | _ => false
def glB (s : Sx) (x : Str) : Bool := match s.sc.names.lookup x with
  | some .globalImplicit => true
  | _ => false
def gkGo (x : Str) : List (Str × Gk) → Option Gk
  | [] => none
  | (y, k) :: r => if y == x then some k else gkGo x r
theorem gkGo_some {x : Str} {k : Gk} : ∀ {G : List (Str × Gk)}, gkGo x G = some k → (x, k) ∈ G
  | [], h => by cases h
  | (y, k') :: r, h => by
    unfold gkGo at h
    split at h
    · cases h
      have : y = x := beq_iff_eq.mp (by assumption)
      subst this
      exact List.mem_cons_self
    · exact List.mem_cons_of_mem _ (gkGo_some h)
structure Re where
  l : Lv
  q : Bool
  m : M D
structure Rt where
  q : Bool
  m : M Bool
def no : Re := ⟨.new, true, M.bad⟩
def noT : Rt := ⟨true, M.bad⟩
def cCon : Const → Re
  | .none => ⟨.new, true, M.pure .none⟩
  | .bool b => ⟨.new, true, M.pure (.bool b)⟩
  | .int i => ⟨.new, true, M.pure (.int i)⟩
  | .str x => ⟨.new, true, M.pure (.str x)⟩
  | _ => no
def cName (s : Sx) (x : Str) : Re := cond (okNm x) (match slotGo x s.N 0 with
  | some i => cond (visB s x) (cond (s.S.contains i) ⟨⟨true, !s.P.contains i, false, false⟩, true, M.get i⟩ ⟨.pur, true, M.get i⟩) no
  | none => cond (glB s x) (match gkGo x s.G with
    | some (.con d) => ⟨.new, true, M.pure d⟩
    | _ => no) no) no
def opG : Operator → Option (D → D → Option D)
  | .Add => some dAdd
  | .Sub => some dSub
  | .Mult => some dMul
  | .FloorDiv => some dDiv
  | .Mod => some dMod
  | .Pow => some dPow
  | _ => none
def reBin (op : Operator) (a b : Re) : Re := match opG op with
  | some g => cond ((a.l.p || b.q) && a.l.t && b.l.t) ⟨.new, a.q && b.q, a.m.bind fun d => b.m.bind fun f => M.lift (g d f)⟩ no
  | none => no
def reUn (op : UnaryOp) (a : Re) : Re := match op with
  | .Not => ⟨.new, a.q, M.notV a.m⟩
  | .USub => ⟨.new, a.q, a.m.bind fun d => M.lift (dNeg d)⟩
  | _ => no
def cmpG : CmpOp → Option (D → D → Option D)
  | .Eq => some dEq
  | .NotEq => some dNe
  | .Lt => some dLt
  | .LtE => some dLe
  | .Gt => some dGt
  | .GtE => some dGe
  | .Is => some dIs
  | .IsNot => some dIsNot
  | .In => some dIn
  | .NotIn => some dNi
def notSet : Expr → Bool
  | .Set _ _ _ => false
  | _ => true
def reCmp (op : CmpOp) (eb : Expr) (a b : Re) : Re := match cmpG op with
  | some g => cond ((a.l.p || b.q) && a.l.t && b.l.t && notSet eb) ⟨.new, a.q && b.q, a.m.bind fun d => b.m.bind fun f => M.lift (g d f)⟩ no
  | none => no
def rtCmp (op : CmpOp) (eb : Expr) (a b : Re) : Rt := match cmpG op with
  | some g => cond ((a.l.p || b.q) && a.l.t && b.l.t && notSet eb) ⟨a.q && b.q, (a.m.bind fun d => b.m.bind fun f => M.lift (g d f)).bind fun d => M.lift (dB d)⟩ noT
  | none => noT
def reChain (op op' : CmpOp) (ed : Expr) (a b d : Re) : Re := match cmpG op, cmpG op' with
  | some g, some g' => cond ((a.l.p || b.q) && a.l.t && b.l.t && (b.l.p || d.q) && d.l.t && notSet ed) ⟨.new, a.q && (b.q && d.q), M.chain g g' a.m b.m d.m⟩ no
  | _, _ => no
def rtChain (op op' : CmpOp) (ed : Expr) (a b d : Re) : Rt := match cmpG op, cmpG op' with
  | some g, some g' => cond ((a.l.p || b.q) && a.l.t && b.l.t && (b.l.p || d.q) && d.l.t && notSet ed) ⟨a.q && (b.q && d.q), (M.chain g g' a.m b.m d.m).bind fun d => M.lift (dB d)⟩ noT
  | _, _ => noT
def reIf (t : Rt) (a b : Re) : Re := ⟨a.l.and b.l, t.q && (a.q && b.q), M.ife t.m a.m b.m⟩
def reIx (eb : Expr) (a b : Re) : Re := cond ((a.l.p || b.q) && a.l.t && b.l.t && plainIx eb) ⟨.pur, a.q && b.q, a.m.bind fun d => b.m.bind fun f => M.lift (dIx d f)⟩ no
def M.ixO (j : Nat) (mb : M D) : M D := (M.get j).bind fun _ => mb.bind fun f => (M.get j).bind fun d => M.lift (dIx d f)
def reIxO (j : Nat) (eb : Expr) (b : Re) : Re := cond (b.l.t && plainIx eb) ⟨.pur, b.q, M.ixO j b.m⟩ no
structure Rp' where
  q : Bool
  m : M (Option Int)
def rpOf (r : Option Re) : Rp' := match r with
  | none => ⟨true, M.pure none⟩
  | some r => ⟨r.q, r.m.bind fun d => M.lift (dI d)⟩
def reCut (a : Re) (lo hi : Rp') : Re := cond ((a.l.p || (lo.q && hi.q)) && a.l.t) ⟨.new, a.q && (lo.q && hi.q), a.m.bind fun d => lo.m.bind fun l => hi.m.bind fun h => M.lift (dCut l h d)⟩ no
/-- several -/
structure Ra where
  ok : Bool
  ls : List Lv
  q : Bool
  m : M (List D)
def raNo : Ra := ⟨false, [], true, M.bad⟩
def raNil : Ra := ⟨true, [], true, M.pure []⟩
def raCons (e : Expr) (a : Re) (r : Ra) : Ra := ⟨r.ok && (a.l.p || r.q) && notStar e, a.l :: r.ls, a.q && r.q, a.m.bind fun d => r.m.bind fun ds => M.pure (d :: ds)⟩
def reTup (r : Ra) : Re := cond r.ok ⟨⟨r.ls.all (·.p), r.ls.all (·.r), r.ls.all (·.p), true⟩, r.q, r.m.bind fun ds => M.lift (dTup ds)⟩ no
def reLst (r : Ra) : Re := cond (r.ok && r.ls.all (·.p)) ⟨.new, r.q, r.m.bind fun ds => M.lift (dLst ds)⟩ no
/-- arguments of a def -/
structure Rc where
  ok : Bool
  as : List Ad
  q : Bool
  m : M (List D)
def rcNil : Rc := ⟨true, [], true, M.pure []⟩
def rcVal (e : Expr) (a : Re) (r : Rc) : Rc := ⟨r.ok && (a.l.p || r.q) && notStar e, .val a.l :: r.as, a.q && r.q, a.m.bind fun d => r.m.bind fun ds => M.pure (d :: ds)⟩
def rcOwn (i : Nat) (r : Rc) : Rc := ⟨r.ok, .own i :: r.as, r.q, (M.get i).bind fun _ => r.m.bind fun ds => M.pure (.none :: ds)⟩
/-- the slot of a list that is held -/
def ownSlot (s : Sx) : Expr → Option Nat
  | .Name x _ => cond (okNm x && visB s x) (match slotGo x s.N 0 with
    | some i => cond (s.S.contains i) (some i) none
    | none => none) none
  | _ => none
def ownPos : List Ad → Nat → List Nat
  | [], _ => []
  | .val _ :: r, i => ownPos r (i + 1)
  | .own _ :: r, i => i :: ownPos r (i + 1)
def pick (io : List Nat) (lv : Nat) : List FnI → Option FnI
  | [] => none
  | v :: r => cond (v.io == io && decide (v.lv ≤ lv)) (some v) (pick io lv r)
def reCall (lv : Nat) (vs : List FnI) (r : Rc) : Re := cond r.ok (match pick (ownPos r.as 0) lv vs with
  | some v => cond (adOk r.as fun j => v.io.contains j) ⟨⟨true, true, true, v.fr⟩, r.q && r.as.all (fun a => a.slot.isNone), r.m.bind fun ds => M.callA r.as v.F ds⟩ no
  | none => match pick [] lv vs with
    | some v => ⟨⟨true, true, true, true⟩, r.q, (r.m.bind fun ds => M.callR r.as v.F ds).bind M.chk⟩
    | none => no) no
def reCall0 (lv : Nat) (vs : List FnI) : Re := match pick [] lv vs with
  | some v => ⟨⟨true, true, true, v.fr⟩, true, M.call0 v.F⟩
  | none => no
/-- what is built in -/
def bltG (x : Str) : Option (List D → Option D) :=
  if x == "len" then some dLen else if x == "int" then some dInt else if x == "abs" then some dAbs else if x == "ord" then some dOrd else if x == "str" then some dStr
  else if x == "tuple" then some dTuple else if x == "list" then some dList else if x == "all" then some dAll else if x == "any" then some dAny else if x == "sum" then some dSum
  else if x == "max" then some dMax else if x == "min" then some dMin else none
def bltNC (x : Str) : Bool := (["all", "any", "sum", "max", "min"] : List Str).contains x
def reBlt (calm : Bool) (x : Str) (args : List Expr) (r : Ra) : Re := match bltG x with
  | some g => cond (r.ok && r.ls.all (·.t) && args.all notStar && !args.isEmpty && (calm || !bltNC x)) ⟨.new, r.q, r.m.bind fun ds => M.lift (g ds)⟩ no
  | none => no
def tyOf (x : Str) : Option String :=
  if x == "int" then some "int" else if x == "bool" then some "bool" else if x == "str" then some "str" else if x == "list" then some "list" else if x == "tuple" then some "tuple" else if x == "dict" then some "dict" else none
def reIsi (s : Sx) (e : Expr) (t : Expr) (a : Re) : Re := match t with
  | .Name x _ => match tyOf x with
    | some T => cond (glB s x && notStar e) ⟨.new, a.q, a.m.bind fun d => M.pure (.bool (isTy T d))⟩ no
    | none => no
  | _ => no
/-- methods of a held list -/
def mtO (name : Str) : Option (Bool × (List D → List D → Option (D × List D))) :=
  if name == "append" then some (true, gApp) else if name == "extend" then some (false, gExt) else if name == "pop" then some (false, gPop) else none
def reMtO (i : Nat) (name : Str) (apos pos : Pos) (args : List Expr) (r : Ra) : Re := match mtO name with
  | some (pu, g) => cond (r.ok && r.ls.all (·.t) && (!pu || r.ls.all (·.p)) && args.all notStar && decide (args.length < 30) && (apos.endLine == pos.line)) (match args with
    | [] => ⟨.new, false, (M.get i).bind fun _ => M.meth i g []⟩
    | _ :: _ => ⟨.new, false, (M.get i).bind fun _ => r.m.bind fun ds => M.meth i g ds⟩) no
  | none => no
def mtP (name : Str) (T : String) : Option (D → List D → Option D) :=
  if T == "str" then (if name == "join" then some dJoin else if name == "split" then some dSplit else if name == "index" then some dSix else none)
  else (if name == "index" then some dLix else if name == "count" then some dLct else none)
/-- an object whose name tells nothing of super() -/
def plainBase : Expr → Bool
  | .Call _ [] [] _ => false
  | _ => true
def M.mt (T : String) (g : D → List D → Option D) (mo : M D) (m : M (List D)) : M D := mo.bind fun d => (M.lift (if tyD T d = true then some d else none)).bind fun d => m.bind fun ds => M.lift (g d ds)
def reMtP (T : String) (o : Expr) (name : Str) (apos pos : Pos) (args : List Expr) (a : Re) (r : Ra) : Re := match mtP name T with
  | some g => cond (r.ok && (a.l.p || r.q) && a.l.t && r.ls.all (·.t) && args.all notStar && !args.isEmpty && decide (args.length < 30) && (apos.endLine == pos.line) && plainBase o) ⟨.new, a.q && r.q, M.mt T g a.m r.m⟩ no
  | none => no
/-! what is gone through -/
structure Rs where
  ok : Bool
  js : List Nat
  q : Bool
  m : M (List D × Gd)
def rsNo : Rs := ⟨false, [], true, M.bad⟩
def rsEx (a : Re) : Rs := cond a.l.p ⟨true, [], a.q, a.m.bind fun d => M.lift (dSrc d)⟩ rsNo
def rsRg (args : List Expr) (r : Ra) : Rs := cond (r.ok && r.ls.all (·.t) && args.all notStar) (match args with
  | [_] => ⟨true, [], r.q, r.m.bind fun ds => M.lift (dRg1 ds)⟩
  | [_, _] => ⟨true, [], r.q, r.m.bind fun ds => M.lift (dRg2 ds)⟩
  | [_, _, _] => ⟨true, [], r.q, r.m.bind fun ds => M.lift (dRg3 ds)⟩
  | _ => rsNo) rsNo
def isTupE : Expr → Bool
  | .Tuple _ _ _ => true
  | _ => false
def notSetE : Expr → Bool
  | .Set _ _ _ => false
  | _ => true
/-! targets -/
structure Rg where
  ok : Bool
  ts : List Nat
  g : D → M Unit
structure Rgs where
  ok : Bool
  ts : List Nat
  g : List D → M Unit
mutual
def cG : Nat → Sx → Expr → Rg
  | 0, _, _ => ⟨false, [], fun _ => M.bad⟩
  | n + 1, s, e => match e with
    | .Name x _ => match slotGo x s.N 0 with
      | some i => ⟨locB s x && !s.S.contains i, [i], M.setD i⟩
      | none => ⟨false, [], fun _ => M.bad⟩
    | .Tuple es _ _ => let r := cGs n s es; ⟨r.ok && es.all asgPlain && s.calm, r.ts, M.setTup es.length r.g⟩
    | _ => ⟨false, [], fun _ => M.bad⟩
def cGs : Nat → Sx → List Expr → Rgs
  | 0, _, _ => ⟨false, [], fun _ => M.bad⟩
  | n + 1, s, es => match es with
    | [] => ⟨true, [], M.setNil⟩
    | e :: es => let r := cG n s e; let u := cGs n s es; ⟨r.ok && u.ok && asgPlain e, r.ts ++ u.ts, M.setCons r.g u.g⟩
end
/-- the block's own names, with their slots -/
def ownN (N : List Str) : List (Str × NameKind) → List (Str × Nat)
  | [] => []
  | (y, k) :: r => match k with
    | .local => match slotGo y N 0 with
      | some i => (y, i) :: ownN N r
      | none => ownN N r
    | .cell => match slotGo y N 0 with
      | some i => (y, i) :: ownN N r
      | none => ownN N r
    | _ => ownN N r
def Sx.blk (s : Sx) (scope : Scope) : Sx := { s with sc := relS scope s.sc, full := false, lam := false }
def reLc (s : Sx) (scope : Scope) (iter : Expr) (it : Rs) (g : Rg) (t : Rt) (e : Re) : Re :=
  cond (it.ok && g.ok && e.l.p && blkC s.N s.sc scope (ownN s.N scope.names) && g.ts.all (fun i => ((ownN s.N scope.names).map (·.2)).contains i) && ((ownN s.N scope.names).map (·.2)).all (fun i => !s.S.contains i) && notSetE iter && s.calm)
    ⟨.new, it.q && (t.q && e.q), M.lc it.m (M.lcTurn ((ownN s.N scope.names).map (·.2)) g.g t.m e.m)⟩ no
def ifsOf (f : Expr → Rt) : List Expr → Rt
  | [] => ⟨true, M.pure true⟩
  | [c] => f c
  | _ => noT
def isTrueP : Expr → Bool
  | .UnaryOp .Not _ _ => false
  | .BoolOp _ _ _ => false
  | .IfExp _ _ _ _ => false
  | .Compare _ _ _ _ => false
  | _ => true
def rtTru (a : Re) : Rt := ⟨a.q, M.tru a.m⟩
/-- a text constant -/
def strish (s : Sx) : Expr → Bool
  | .Name x _ => match slotGo x s.N 0 with
    | some _ => false
    | none => match gkGo x s.G with
      | some (.con (.str _)) => true
      | _ => false
  | .Constant (.str _) _ _ => true
  | _ => false
def plainArgs : Arguments → Bool
  | ⟨[], [], none, [], [], none, []⟩ => true
  | _ => false
def Sx.lm (s : Sx) (scope : Scope) : Sx := { s with sc := scope, full := false, lv := s.lv - 2, calm := true, lam := false }
def reLam (s : Sx) (x : Str) (params : Arguments) (scope : Scope) (w : Str) (h : Xc → Option D) (b : Re) : Re :=
  cond (s.lam && s.calm && decide (2 ≤ s.lv) && plainArgs params && LamX.lamSB s.sc scope) ⟨.pur, false, M.lamW w h b.m⟩ no
mutual
def cE : Nat → Sx → Expr → Re
  | 0, _, _ => no
  | n + 1, s, e => match e with
    | .Constant k _ _ => cCon k
    | .Name x _ => cName s x
    | .BinOp a op b _ => reBin op (cE n s a) (cE n s b)
    | .UnaryOp op a _ => reUn op (cE n s a)
    | .BoolOp op vs _ => cB n s op vs
    | .IfExp t a b _ => reIf (cT n s t) (cE n s a) (cE n s b)
    | .Compare a ops bs _ => match ops, bs with
      | [op], [b] => reCmp op b (cE n s a) (cE n s b)
      | [op, op'], [b, d] => reChain op op' d (cE n s a) (cE n s b) (cE n s d)
      | _, _ => no
    | .Subscript a b _ => match b with
      | .Slice lo hi none _ => reCut (cE n s a) (rpOf (lo.map (cE n s))) (rpOf (hi.map (cE n s)))
      | b => match ownSlot s a with
        | some j => reIxO j b (cE n s b)
        | none => reIx b (cE n s a) (cE n s b)
    | .Tuple es _ _ => reTup (cA n s es)
    | .List es _ => reLst (cA n s es)
    | .ListComp elt gens scope _ => match gens with
      | [⟨tg, iter, ifs, 0⟩] => reLc s scope iter (cI n s tg iter) (cG n (s.blk scope) tg) (ifsOf (fun c => cT n (s.blk scope) c) ifs) (cond (decide (ifs.length ≤ 1)) (cE n (s.blk scope) elt) no)
      | _ => no
    | .Call f args kws pos => cond kws.isEmpty (match f with
      | .Name x _ => cond (okNm x && glB s x) (match gkGo x s.G with
        | some (.fn vs) => cond s.calm (match args with
          | [] => reCall0 s.lv vs
          | _ :: _ => reCall s.lv vs (cC n s args)) no
        | some (.lamw w h) => (match args with
          | [.Lambda params body scope _] => reLam s x params scope w h (cE n (s.lm scope) body)
          | _ => no)
        | some _ => no
        | none => match x == "isinstance", args with
          | true, [e, t] => reIsi s e t (cE n s e)
          | true, _ => no
          | false, _ => reBlt s.calm x args (cA n s args)) no
      | .Attribute o name apos => match ownSlot s o, mtO name with
        | some i, some _ => reMtO i name apos pos args (cA n s args)
        | _, _ => cond (name == "join" || name == "split") (reMtP "str" o name apos pos args (cE n s o) (cA n s args)) (cond (name == "index" || name == "count")
          (cond (strish s o) (reMtP "str" o name apos pos args (cE n s o) (cA n s args)) (reMtP "list" o name apos pos args (cE n s o) (cA n s args))) no)
      | _ => no) no
    | _ => no
def cT : Nat → Sx → Expr → Rt
  | 0, _, _ => noT
  | n + 1, s, e => match e with
    | .UnaryOp .Not a _ => let r := cT n s a; ⟨r.q, M.bnot r.m⟩
    | .BoolOp op vs _ => cTB n s op vs
    | .Compare a ops bs _ => match ops, bs with
      | [op], [b] => rtCmp op b (cE n s a) (cE n s b)
      | [op, op'], [b, d] => rtChain op op' d (cE n s a) (cE n s b) (cE n s d)
      | _, _ => noT
    | .IfExp _ _ _ _ => noT
    | e => rtTru (cE n s e)
def cTB : Nat → Sx → PySem.BoolOp → List Expr → Rt
  | 0, _, _, _ => noT
  | n + 1, s, op, es => match es with
    | [] => noT
    | [a] => cT n s a
    | a :: b :: rest => let x := cT n s a; let y := cTB n s op (b :: rest); match op with
      | .And => ⟨x.q && y.q, M.band x.m y.m⟩
      | .Or => ⟨x.q && y.q, M.bor x.m y.m⟩
def cB : Nat → Sx → PySem.BoolOp → List Expr → Re
  | 0, _, _, _ => no
  | n + 1, s, op, es => match es with
    | [] => no
    | [a] => cE n s a
    | a :: b :: rest => let x := cE n s a; let y := cB n s op (b :: rest); match op with
      | .And => ⟨y.l, x.q && y.q, M.andV x.m y.m⟩
      | .Or => ⟨y.l, x.q && y.q, M.orV x.m y.m⟩
def cA : Nat → Sx → List Expr → Ra
  | 0, _, _ => raNo
  | n + 1, s, es => match es with
    | [] => raNil
    | e :: es => raCons e (cE n s e) (cA n s es)
def cC : Nat → Sx → List Expr → Rc
  | 0, _, _ => ⟨false, [], true, M.bad⟩
  | n + 1, s, es => match es with
    | [] => rcNil
    | e :: es => match ownSlot s e with
      | some i => rcOwn i (cC n s es)
      | none => rcVal e (cE n s e) (cC n s es)
def cS : Nat → Sx → Expr → Rs
  | 0, _, _ => rsNo
  | n + 1, s, e => match ownSlot s e with
    | some i => ⟨true, [i], true, M.srcOwn i⟩
    | none => rsEx (cE n s e)
def cI : Nat → Sx → Expr → Expr → Rs
  | 0, _, _, _ => rsNo
  | n + 1, s, tg, e => match e with
    | .Call (.Name x _) args [] _ => cond (glB s x && okNm x) (match gkGo x s.G with
      | some _ => cS n s e
      | none => cond (x == "range") (rsRg args (cA n s args)) (cond (x == "enumerate" && isTupE tg) (match args with
        | [a] => let r := cS n s a; cond (r.ok && notStar a) ⟨true, r.js, r.q, M.enum r.m⟩ rsNo
        | _ => rsNo) (cond (x == "zip" && isTupE tg) (match args with
        | [a, b] => let r := cS n s a; let u := cS n s b; cond (r.ok && u.ok && (r.js.isEmpty || u.q) && notStar a && notStar b) ⟨true, r.js ++ u.js, r.q && u.q, M.zip r.m u.m⟩ rsNo
        | _ => rsNo) (cS n s e)))) rsNo
    | e => cS n s e
end
end Cr
end
section
set_option Elab.async false
set_option linter.all false
set_option maxRecDepth 100000
set_option maxHeartbeats 4000000
namespace Cr
open PySem PySem.Spec L2
set_option autoImplicit false
section
variable {X : Cx} {c : Cn} {s : Sx} {pos : Pos}
theorem ev_no {e : Expr} : EvOk X c e no.l no.q no.m := ⟨fun _ _ _ => False, ⟨fun _ _ _ _ _ _ h => h.elim⟩, fun _ _ _ _ _ _ _ h => h⟩
theorem tt_no {e : Expr} : TtOk X c e noT.q noT.m := ⟨fun _ _ _ => False, ⟨fun _ _ _ _ _ _ h => h.elim⟩, fun _ _ _ _ _ _ _ h => h⟩
theorem tw_no {e : Expr} : TwOk X c e noT.q noT.m := ⟨fun _ _ _ => False, ⟨fun _ _ _ _ _ _ _ h => h.elim⟩, fun _ _ _ _ _ _ _ h => h⟩
abbrev Re.Ok (X : Cx) (c : Cn) (e : Expr) (r : Re) : Prop := EvOk X c e r.l r.q r.m
abbrev Rt.Ok (X : Cx) (c : Cn) (e : Expr) (r : Rt) : Prop := TtOk X c e r.q r.m
theorem re_cond {e : Expr} {b : Bool} {r : Re} (h : b = true → r.Ok X c e) : (cond b r no).Ok X c e := by
  cases b with
  | true => exact h rfl
  | false => exact ev_no
theorem rt_cond {e : Expr} {b : Bool} {r : Rt} (h : b = true → r.Ok X c e) : (cond b r noT).Ok X c e := by
  cases b with
  | true => exact h rfl
  | false => exact tt_no
theorem okNm_1 {x : Str} (h : okNm x = true) : (x == ("__debug__" : Str)) = false ∧ (x == ("__classdict__" : Str)) = false := by
  unfold okNm at h
  rw [Bool.and_eq_true] at h
  exact ⟨by simpa using h.1, by simpa using h.2⟩
theorem CtxOk.vis (h : CtxOk X c s) {x : Str} (v : visB s x = true) : Vis X.env.scope x := by
  rw [h.sc]
  unfold visB at v
  split at v
  · exact .inl (by assumption)
  · exact .inr (.inl (by assumption))
  · exact .inr (.inr (by assumption))
  · cases v
theorem CtxOk.loc (h : CtxOk X c s) {x : Str} (v : locB s x = true) : Loc X.env.scope x ∧ (X.fn x = true ∨ X.env.scope.names.lookup x = some .local) := by
  rw [h.sc]
  unfold locB at v
  split at v
  · exact ⟨.inl (by assumption), .inr (by assumption)⟩
  · exact ⟨.inr (by assumption), .inl (h.fn v x)⟩
  · cases v
theorem CtxOk.gl (h : CtxOk X c s) {x : Str} (v : glB s x = true) : Gl X x := by
  show X.env.scope.names.lookup x = _
  rw [h.sc]
  unfold glB at v
  split at v
  · assumption
  · cases v
theorem CtxOk.slot (h : CtxOk X c s) {x : Str} {i : Nat} (e : slotGo x s.N 0 = some i) : X.N[i]? = some x := by
  obtain ⟨k, e1, e2⟩ := slotGo_some e
  rw [h.N]
  have : i = k := by omega
  rw [this]; exact e2
theorem CtxOk.own (h : CtxOk X c s) (i : Nat) : c.S i = s.S.contains i := by rw [h.S]
theorem ev_con' {x : Const} {j : Nat} : (cCon x).Ok X c (.Constant x j pos) := by
  cases x with
  | none => exact ev_con pe_non (fun _ _ => .non) nofun
  | bool b => exact ev_con pe_bl (fun _ _ => .bl b) nofun
  | int i => exact ev_con pe_int (fun _ _ => .int i) nofun
  | str x => exact ev_con pe_str (fun _ _ => .str x) nofun
  | _ => exact ev_no
theorem ev_name (h : CtxOk X c s) {x : Str} : (cName s x).Ok X c (.Name x pos) := by
  unfold cName
  refine re_cond fun hx => ?_
  obtain ⟨h1, h2⟩ := okNm_1 hx
  split
  · rename_i i e
    refine re_cond fun hv => ?_
    cases q : s.S.contains i with
    | true =>
      have := ev_own (c := c) (pos := pos) (h.slot e) (h.vis hv) h1 h2 (by rw [h.own]; exact q)
      rw [h.P] at this
      exact this
    | false => exact ev_var (h.slot e) (h.vis hv) h1 h2 (by rw [h.own]; exact q)
  · refine re_cond fun hg => ?_
    split
    · rename_i d e
      obtain ⟨⟨u, v, m, r, k⟩, nl⟩ := h.G.k _ (gkGo_some e)
      exact ev_con (pe_glob (h.gl hg) m r h1) (by rw [← h.F.K]; exact k) nl
    · exact ev_no
theorem notSet_in {b : Expr} {op : CmpOp} (h : notSet b = true) : behindInMarks op b = false := by
  cases b <;> first | rfl | (cases h; done)
theorem notSet_last {b d : Expr} {op op' : CmpOp} (h : notSet d = true) : lastMarks [op, op'] [b, d] = false := notSet_in (op := op') h
theorem ev_bin' (h : CtxOk X c s) {op : Operator} {g : D → D → Option D} (e : opG op = some g) : EvB X c op g := by
  cases op <;> simp only [opG, Option.some.injEq, reduceCtorEq] at e <;> subst e
  · exact ev_add h.F
  · exact ev_sub
  · exact ev_mul h.F
  · exact ev_mod
  · exact ev_pow
  · exact ev_div
theorem cmp_of (h : CtxOk X c s) {op : CmpOp} {g : D → D → Option D} (e : cmpG op = some g) : CmpR X c op g := by
  cases op <;> simp only [cmpG, Option.some.injEq] at e <;> subst e
  · exact cmp_eq h.F h.hu
  · exact cmp_ne h.F h.hu
  · exact cmp_lt
  · exact cmp_le
  · exact cmp_gt
  · exact cmp_ge
  · exact cmp_is
  · exact cmp_isnot
  · exact cmp_in h.F h.hu
  · exact cmp_ni h.F h.hu
theorem re_bin (h : CtxOk X c s) {op : Operator} {a b : Expr} {ra rb : Re} (ha : ra.Ok X c a) (hb : rb.Ok X c b) : (reBin op ra rb).Ok X c (.BinOp a op b pos) := by
  unfold reBin
  split
  · rename_i g e
    refine re_cond fun hq => ?_
    simp only [Bool.and_eq_true] at hq
    exact ev_bin' h e ha hb hq.1.1 hq.1.2 hq.2
  · exact ev_no
theorem re_un {op : UnaryOp} {a : Expr} {ra : Re} (ha : ra.Ok X c a) : (reUn op ra).Ok X c (.UnaryOp op a pos) := by
  cases op with
  | Not => exact ev_not ha
  | USub => exact ev_neg ha
  | _ => exact ev_no
theorem re_cmp (h : CtxOk X c s) {op : CmpOp} {a b : Expr} {ra rb : Re} (ha : ra.Ok X c a) (hb : rb.Ok X c b) : (reCmp op b ra rb).Ok X c (.Compare a [op] [b] pos) := by
  unfold reCmp
  split
  · rename_i g e
    refine re_cond fun hq => ?_
    simp only [Bool.and_eq_true] at hq
    exact ev_cmp (cmp_of h e) ha hb hq.1.1.1 hq.1.1.2 hq.1.2 (notSet_in hq.2)
  · exact ev_no
theorem rt_cmp (h : CtxOk X c s) {op : CmpOp} {a b : Expr} {ra rb : Re} (ha : ra.Ok X c a) (hb : rb.Ok X c b) : (rtCmp op b ra rb).Ok X c (.Compare a [op] [b] pos) := by
  unfold rtCmp
  split
  · rename_i g e
    refine rt_cond fun hq => ?_
    simp only [Bool.and_eq_true] at hq
    exact tt_cmp (cmp_of h e) ha hb hq.1.1.1 hq.1.1.2 hq.1.2 (notSet_in hq.2)
  · exact tt_no
theorem re_chain (h : CtxOk X c s) {op op' : CmpOp} {a b d : Expr} {ra rb rd : Re} (ha : ra.Ok X c a) (hb : rb.Ok X c b) (hd : rd.Ok X c d) : (reChain op op' d ra rb rd).Ok X c (.Compare a [op, op'] [b, d] pos) := by
  unfold reChain
  split
  · rename_i g g' e e'
    refine re_cond fun hq => ?_
    simp only [Bool.and_eq_true] at hq
    exact ev_chain (cmp_of h e) (cmp_of h e') ha hb hd hq.1.1.1.1.1 hq.1.1.1.1.2 hq.1.1.1.2 hq.1.1.2 hq.1.2 (notSet_last hq.2)
  · exact ev_no
theorem rt_chain (h : CtxOk X c s) {op op' : CmpOp} {a b d : Expr} {ra rb rd : Re} (ha : ra.Ok X c a) (hb : rb.Ok X c b) (hd : rd.Ok X c d) : (rtChain op op' d ra rb rd).Ok X c (.Compare a [op, op'] [b, d] pos) := by
  unfold rtChain
  split
  · rename_i g g' e e'
    refine rt_cond fun hq => ?_
    simp only [Bool.and_eq_true] at hq
    exact tt_chain (cmp_of h e) (cmp_of h e') ha hb hd hq.1.1.1.1.1 hq.1.1.1.1.2 hq.1.1.1.2 hq.1.1.2 hq.1.2 (notSet_last hq.2)
  · exact tt_no
theorem re_ix (h : CtxOk X c s) {a b : Expr} {ra rb : Re} (ha : ra.Ok X c a) (hb : rb.Ok X c b) : (reIx b ra rb).Ok X c (.Subscript a b pos) := by
  unfold reIx
  refine re_cond fun hq => ?_
  simp only [Bool.and_eq_true] at hq
  exact ev_ix h.F ha hb hq.1.1.1 hq.1.1.2 hq.1.2 hq.2
theorem po_of {f : Expr → Re} {o : Option Expr} (h : ∀ e, o = some e → (f e).Ok X c e) : PoOk X c o (rpOf (o.map f)).q (rpOf (o.map f)).m := by
  cases o with
  | none => exact po_no
  | some e => exact po_yes (h e rfl)
theorem re_cut (h : CtxOk X c s) {a : Expr} {lo hi : Option Expr} {p2 : Pos} {ra : Re} {rl rh : Rp'} (ha : ra.Ok X c a) (hl : PoOk X c lo rl.q rl.m) (hh : PoOk X c hi rh.q rh.m) : (reCut ra rl rh).Ok X c (.Subscript a (.Slice lo hi none p2) pos) := by
  unfold reCut
  refine re_cond fun hq => ?_
  simp only [Bool.and_eq_true] at hq
  exact ev_cut h.F ha hl hh hq.1 hq.2
abbrev Ra.Ok (X : Cx) (c : Cn) (es : List Expr) (r : Ra) : Prop := r.ok = true → AOk X c es r.ls r.q r.m
theorem re_tup {es : List Expr} {k : Nat} {r : Ra} (h : r.Ok X c es) : (reTup r).Ok X c (.Tuple es k pos) := by
  unfold reTup
  exact re_cond fun hq => ev_tup (h hq)
theorem re_lst {es : List Expr} {r : Ra} (h : r.Ok X c es) : (reLst r).Ok X c (.List es pos) := by
  unfold reLst
  refine re_cond fun hq => ?_
  rw [Bool.and_eq_true] at hq
  exact ev_lst (h hq.1) hq.2
theorem ra_cons {e : Expr} {es : List Expr} {a : Re} {r : Ra} (he : a.Ok X c e) (h : r.Ok X c es) : (raCons e a r).Ok X c (e :: es) := fun hq => by
  simp only [raCons, Bool.and_eq_true] at hq
  exact a_cons he (h hq.1.1) hq.1.2 hq.2
structure Rc.Ok (X : Cx) (c : Cn) (es : List Expr) (r : Rc) : Prop where
  a : r.ok = true → AcOk X c es r.as r.q r.m
  o : ∀ i j : Nat, r.as[i]? = some (Ad.own j) → c.S j = true
  n : r.ok = true → es.all notStar = true
theorem rc_nil : rcNil.Ok X c [] := ⟨fun _ => ac_nil, (fun i j e => by simp [rcNil] at e), fun _ => rfl⟩
theorem rc_val {e : Expr} {es : List Expr} {a : Re} {r : Rc} (he : a.Ok X c e) (h : r.Ok X c es) : (rcVal e a r).Ok X c (e :: es) := by
  refine ⟨fun hq => ?_, fun i j e' => ?_, fun hq => ?_⟩
  · simp only [rcVal, Bool.and_eq_true] at hq
    exact ac_val he (h.a hq.1.1) hq.1.2 hq.2
  · cases i with
    | zero => cases e'
    | succ i => exact h.o i j e'
  · simp only [rcVal, Bool.and_eq_true] at hq
    rw [List.all_cons, hq.2, h.n hq.1.1]; rfl
theorem own_slot (h : CtxOk X c s) {e : Expr} {i : Nat} (q : ownSlot s e = some i) : ∃ x p, e = .Name x p ∧ X.N[i]? = some x ∧ Vis X.env.scope x ∧ (x == ("__debug__" : Str)) = false ∧ (x == ("__classdict__" : Str)) = false ∧ c.S i = true := by
  cases e with
  | Name x p =>
    unfold ownSlot at q
    dsimp only at q
    cases q1 : okNm x && visB s x with
    | false => rw [q1] at q; cases q
    | true =>
      rw [q1] at q
      rw [Bool.and_eq_true] at q1
      simp only [cond_true] at q
      split at q
      · rename_i j e
        cases q2 : s.S.contains j with
        | false => rw [q2] at q; cases q
        | true =>
          rw [q2] at q; cases q
          exact ⟨x, p, rfl, h.slot e, h.vis q1.2, (okNm_1 q1.1).1, (okNm_1 q1.1).2, by rw [h.own]; exact q2⟩
      · cases q
  | _ => cases q
theorem re_ixO (h : CtxOk X c s) {a b : Expr} {j : Nat} {rb : Re} (ha : ownSlot s a = some j) (hb : rb.Ok X c b) : (reIxO j b rb).Ok X c (.Subscript a b pos) := by
  obtain ⟨x, p, rfl, h1, h2, h3, h4, h5⟩ := own_slot h ha
  unfold reIxO
  refine re_cond fun hq => ?_
  rw [Bool.and_eq_true] at hq
  obtain ⟨tb, p2, t2⟩ := hb
  refine ⟨_, pe_ix (h.F.K ▸ ix_seq : IxR X (rIx c.K)) (pe_var h1 h2 h3 h4) p2 (plain_ix hq.2), fun O U σ H ρ Q st hh => ?_⟩
  have hh : Res c (RpL c.K c.P .pur) O U σ H rb.q ((M.get j ρ).bind fun _ => rb.m.bind fun f => (M.get j).bind fun d => M.lift (dIx d f)) Q := hh
  rcases get_cases j ρ with ⟨d, e, z⟩ | z
  · rw [z] at hh
    obtain ⟨a, ds, vs, u, e1, e2, e3, r⟩ := st.own j d e h5
    refine ⟨.ref a, e1, ?_⟩
    have hh : Res c (RpL c.K c.P .pur) O U σ H rb.q ((rb.m ρ).bind fun f => (M.get j).bind fun d => M.lift (dIx d f)) Q := hh
    refine t2 O U σ H ρ _ st ?_
    cases eb : rb.m ρ with
    | exc x ρ1 => rw [eb] at hh; exact hh
    | bad => rw [eb] at hh; exact hh.elim
    | ok f ρ1 =>
      rw [eb] at hh
      intro y H2 st2 k2 s2 ry
      have hh : Res c (RpL c.K c.P .pur) O U σ H rb.q ((M.get j ρ1).bind fun d => M.lift (dIx d f)) Q := hh
      rcases get_cases j ρ1 with ⟨d2, e4, z2⟩ | z2
      · rw [z2] at hh
        obtain ⟨b, ds2, vs2, ub, _, q2, q3, q4⟩ := st2.own j d2 e4 h5
        rw [u] at ub; cases ub
        subst q2
        have hh : Res c (RpL c.K c.P .pur) O U σ H rb.q (M.lift (dIx (.list ds2) f) ρ1) Q := hh
        unfold M.lift at hh
        cases f with
        | int i =>
          cases ei : dIx (.list ds2) (.int i) with
          | none => simp only [ei] at hh; exact hh.elim
          | some w =>
            simp only [ei] at hh
            obtain ⟨v, w1, w2⟩ := q4.atI (show L2.atI ds2 i = some w from ei)
            exact .inl ⟨a, vs2, i, v, rfl, ry.b.eInt, SqL.of q3, w1, hh v H2 st2 k2 s2 (rpl_pur w2)⟩
        | _ => exact hh.elim
      · rw [z2] at hh; exact hh.elim
  · rw [z] at hh; exact hh.elim
theorem rc_own (h : CtxOk X c s) {e : Expr} {es : List Expr} {i : Nat} {r : Rc} (q : ownSlot s e = some i) (hr : r.Ok X c es) : (rcOwn i r).Ok X c (e :: es) := by
  obtain ⟨x, p, rfl, h1, h2, h3, h4, h5⟩ := own_slot h q
  refine ⟨fun hq => ac_own h1 h2 h3 h4 h5 (hr.a hq), fun k j e' => ?_, fun hq => ?_⟩
  · cases k with
    | zero => cases e'; exact h5
    | succ k => exact hr.o k j e'
  · rw [List.all_cons, hr.n hq]; rfl
theorem pick_some {io : List Nat} {lv : Nat} {v : FnI} : ∀ {vs : List FnI}, pick io lv vs = some v → v ∈ vs ∧ v.io = io ∧ v.lv ≤ lv
  | [], h => by cases h
  | u :: r, h => by
    unfold pick at h
    cases q : u.io == io && decide (u.lv ≤ lv) with
    | false =>
      rw [q] at h
      obtain ⟨a, b, d⟩ := pick_some (vs := r) h
      exact ⟨List.mem_cons_of_mem _ a, b, d⟩
    | true =>
      rw [q] at h; cases h
      rw [Bool.and_eq_true] at q
      exact ⟨List.mem_cons_self, beq_iff_eq.mp q.1, of_decide_eq_true q.2⟩
theorem re_call (hcm : s.calm = true) (h : CtxOk X c s) {x : Str} {vs : List FnI} {p : Pos} {e : Expr} {es : List Expr} {r : Rc} (hx : okNm x = true) (hg : glB s x = true) (hk : gkGo x s.G = some (.fn vs)) (hr : r.Ok X c (e :: es)) : (reCall s.lv vs r).Ok X c (.Call (.Name x p) (e :: es) [] pos) := by
  obtain ⟨f, fd, ps, m, kp, bd, fn⟩ := h.G.k _ (gkGo_some hk)
  unfold reCall
  refine re_cond fun hq => ?_
  split
  · rename_i v e1
    obtain ⟨mem, _, le⟩ := pick_some e1
    refine re_cond fun ha => ?_
    have G := fn v mem
    rw [h.F.K, h.F.mg] at G
    exact ev_call (CX := L2.CX X.prog X.w) h.F h.tk (by rw [h.F.K, h.F.mg]; exact G) ((h.hr hcm).mono le) (h.gl hg) m kp bd (hr.a hq) (adOk_of ha) hr.o (hr.n hq) (okNm_1 hx).1
  · split
    · rename_i v e1
      obtain ⟨mem, io, le⟩ := pick_some e1
      have G := fn v mem
      rw [h.F.K, h.F.mg, io] at G
      exact ev_callR h.F h.tk (by rw [h.F.K, h.F.mg]; exact G) ((h.hr hcm).mono le) (h.gl hg) m kp bd (hr.a hq) (hr.n hq) (okNm_1 hx).1
    · exact ev_no
theorem re_call0 (hcm : s.calm = true) (h : CtxOk X c s) {x : Str} {vs : List FnI} {p : Pos} (hx : okNm x = true) (hg : glB s x = true) (hk : gkGo x s.G = some (.fn vs)) : (reCall0 s.lv vs).Ok X c (.Call (.Name x p) [] [] pos) := by
  obtain ⟨f, fd, ps, m, kp, bd, fn⟩ := h.G.k _ (gkGo_some hk)
  unfold reCall0
  split
  · rename_i v e1
    obtain ⟨mem, io, le⟩ := pick_some e1
    have G := fn v mem
    rw [h.F.K, h.F.mg, io] at G
    exact ev_call0 (by rw [h.F.K, h.F.mg]; exact G) ((h.hr hcm).mono le) (h.gl hg) m kp bd (okNm_1 hx).1
  · exact ev_no
end
end Cr
end
section
set_option Elab.async false
set_option linter.all false
set_option maxRecDepth 100000
set_option maxHeartbeats 4000000
namespace Cr
open PySem PySem.Spec L2
set_option autoImplicit false
section
variable {X : Cx} {c : Cn} {s : Sx} {pos : Pos}
theorem blt_of (h : CtxOk X c s) {x : Str} {g : List D → Option D} (e : bltG x = some g) (hcm : (s.calm || !bltNC x) = true) : BltR X c x g .new ∧ x ∈ bltL ∧ x ≠ "__name__" := by
  unfold bltG at e
  have cm : ∀ {y : Str}, (x == y) = true → bltNC y = true → s.calm = true := fun {y} h1 h2 => by
    rw [beq_iff_eq.mp h1, h2] at hcm
    simpa using hcm
  have key : ∀ {y : Str} {b : Bool}, (x == y) = true → BltR X c y g .new → (bltL.contains y) = true → (y == ("__name__" : Str)) = false → BltR X c x g .new ∧ x ∈ bltL ∧ x ≠ "__name__" := fun {y b} h1 h2 h3 h4 => by
    have := beq_iff_eq.mp h1
    subst this
    exact ⟨h2, List.contains_iff_mem.mp h3, by simpa using h4⟩
  by_cases hx : (x == ("len" : Str)) = true
  · rw [if_pos hx] at e
    cases e
    exact key (b := true) hx (b_len h.F) (by decide) (by decide)
  rw [if_neg hx] at e
  by_cases hx : (x == ("int" : Str)) = true
  · rw [if_pos hx] at e
    cases e
    exact key (b := true) hx b_int (by decide) (by decide)
  rw [if_neg hx] at e
  by_cases hx : (x == ("abs" : Str)) = true
  · rw [if_pos hx] at e
    cases e
    exact key (b := true) hx b_abs (by decide) (by decide)
  rw [if_neg hx] at e
  by_cases hx : (x == ("ord" : Str)) = true
  · rw [if_pos hx] at e
    cases e
    exact key (b := true) hx b_ord (by decide) (by decide)
  rw [if_neg hx] at e
  by_cases hx : (x == ("str" : Str)) = true
  · rw [if_pos hx] at e
    cases e
    exact key (b := true) hx b_str (by decide) (by decide)
  rw [if_neg hx] at e
  by_cases hx : (x == ("tuple" : Str)) = true
  · rw [if_pos hx] at e
    cases e
    exact key (b := true) hx (b_tuple h.F) (by decide) (by decide)
  rw [if_neg hx] at e
  by_cases hx : (x == ("list" : Str)) = true
  · rw [if_pos hx] at e
    cases e
    exact key (b := true) hx (b_list h.F) (by decide) (by decide)
  rw [if_neg hx] at e
  by_cases hx : (x == ("all" : Str)) = true
  · rw [if_pos hx] at e
    cases e
    exact key (b := true) hx (b_all h.F (h.hc (cm hx (by decide)))) (by decide) (by decide)
  rw [if_neg hx] at e
  by_cases hx : (x == ("any" : Str)) = true
  · rw [if_pos hx] at e
    cases e
    exact key (b := true) hx (b_any h.F (h.hc (cm hx (by decide)))) (by decide) (by decide)
  rw [if_neg hx] at e
  by_cases hx : (x == ("sum" : Str)) = true
  · rw [if_pos hx] at e
    cases e
    exact key (b := true) hx (b_sum h.F (h.hc (cm hx (by decide)))) (by decide) (by decide)
  rw [if_neg hx] at e
  by_cases hx : (x == ("max" : Str)) = true
  · rw [if_pos hx] at e
    cases e
    exact key (b := true) hx (b_max h.F (h.hc (cm hx (by decide)))) (by decide) (by decide)
  rw [if_neg hx] at e
  by_cases hx : (x == ("min" : Str)) = true
  · rw [if_pos hx] at e
    cases e
    exact key (b := true) hx (b_min h.F (h.hc (cm hx (by decide)))) (by decide) (by decide)
  rw [if_neg hx] at e
  cases e
theorem re_blt (h : CtxOk X c s) {x : Str} {p : Pos} {args : List Expr} {r : Ra} (hx : okNm x = true) (hg : glB s x = true) (hr : r.Ok X c args) : (reBlt s.calm x args r).Ok X c (.Call (.Name x p) args [] pos) := by
  unfold reBlt
  split
  · rename_i g e
    refine re_cond fun hq => ?_
    rw [Bool.and_eq_true] at hq
    obtain ⟨hb, hm, hn⟩ := blt_of h e hq.2
    replace hq := hq.1
    simp only [Bool.and_eq_true] at hq
    cases args with
    | nil => cases hq.2
    | cons a as => exact ev_blt hb (h.gl hg) (h.G.b x hm) (hr hq.1.1.1) hq.1.1.2 hq.1.2 hn (okNm_1 hx).1
  · exact ev_no
theorem ty_of {x : Str} {T : String} (e : tyOf x = some T) : x ∈ bltL ∧ bootBuiltins x = some (.type T) ∧ T ∈ tyNames ∧ x ≠ "__name__" ∧ (x == ("__debug__" : Str)) = false := by
  unfold tyOf at e
  have key : ∀ {y : Str}, (x == y) = true → (bltL.contains y) = true → bootBuiltins y = some (.type T) → T ∈ tyNames → (y == ("__name__" : Str)) = false → (y == ("__debug__" : Str)) = false → x ∈ bltL ∧ bootBuiltins x = some (.type T) ∧ T ∈ tyNames ∧ x ≠ "__name__" ∧ (x == ("__debug__" : Str)) = false := fun {y} h1 h2 h3 h4 h5 h6 => by
    have := beq_iff_eq.mp h1
    subst this
    exact ⟨List.contains_iff_mem.mp h2, h3, h4, by simpa using h5, h6⟩
  by_cases hx : (x == ("int" : Str)) = true
  · rw [if_pos hx] at e
    cases e
    exact key hx (by decide) (by decide +kernel) (by simp [tyNames]) (by decide) (by decide)
  rw [if_neg hx] at e
  by_cases hx : (x == ("bool" : Str)) = true
  · rw [if_pos hx] at e
    cases e
    exact key hx (by decide) (by decide +kernel) (by simp [tyNames]) (by decide) (by decide)
  rw [if_neg hx] at e
  by_cases hx : (x == ("str" : Str)) = true
  · rw [if_pos hx] at e
    cases e
    exact key hx (by decide) (by decide +kernel) (by simp [tyNames]) (by decide) (by decide)
  rw [if_neg hx] at e
  by_cases hx : (x == ("list" : Str)) = true
  · rw [if_pos hx] at e
    cases e
    exact key hx (by decide) (by decide +kernel) (by simp [tyNames]) (by decide) (by decide)
  rw [if_neg hx] at e
  by_cases hx : (x == ("tuple" : Str)) = true
  · rw [if_pos hx] at e
    cases e
    exact key hx (by decide) (by decide +kernel) (by simp [tyNames]) (by decide) (by decide)
  rw [if_neg hx] at e
  by_cases hx : (x == ("dict" : Str)) = true
  · rw [if_pos hx] at e
    cases e
    exact key hx (by decide) (by decide +kernel) (by simp [tyNames]) (by decide) (by decide)
  rw [if_neg hx] at e
  cases e
theorem re_isi (h : CtxOk X c s) {x : Str} {p : Pos} {e t : Expr} {a : Re} (hx : (x == ("isinstance" : Str)) = true) (hg : glB s x = true) (ha : a.Ok X c e) : (reIsi s e t a).Ok X c (.Call (.Name x p) [e, t] [] pos) := by
  unfold reIsi
  split
  · rename_i y p2
    split
    · rename_i T eT
      refine re_cond fun hq => ?_
      rw [Bool.and_eq_true] at hq
      obtain ⟨h1, h2, h3, h4, h5⟩ := ty_of eT
      have hx := beq_iff_eq.mp hx
      exact ev_isi h.F ha hx (h.gl hg) (h.G.b x (by rw [hx]; exact List.contains_iff_mem.mp (by decide))) (h.gl hq.1) (h.G.b y h1) h2 h3 h4 h5 hq.2
    · exact ev_no
  · exact ev_no
structure MtOk (X : Cx) (c : Cn) (name : Str) (pu : Bool) (g : List D → List D → Option (D × List D)) : Prop where
  ex : ∃ id, MtO X c id pu g ∧ Slot "list" name id ∧ typeOf (.builtin id) = pure (.type "method_descriptor")
theorem mt_of {name : Str} {pu : Bool} {g : List D → List D → Option (D × List D)} (e : mtO name = some (pu, g)) : MtOk X c name pu g := by
  unfold mtO at e
  split at e
  · rename_i h
    cases e
    rw [beq_iff_eq.mp h]
    exact ⟨_, mo_app, PySem.F.slot_list_append, PySem.F.type_list_append⟩
  · split at e
    · rename_i h
      cases e
      rw [beq_iff_eq.mp h]
      exact ⟨_, mo_ext, PySem.F.slot_list_extend, PySem.F.type_list_extend⟩
    · split at e
      · rename_i h
        cases e
        rw [beq_iff_eq.mp h]
        exact ⟨_, mo_pop, PySem.F.slot_list_pop, PySem.F.type_list_pop⟩
      · cases e
theorem re_mtO (h : CtxOk X c s) {o : Expr} {i : Nat} {name : Str} {apos : Pos} {args : List Expr} {r : Ra} (hi : ownSlot s o = some i) (hr : r.Ok X c args) : (reMtO i name apos pos args r).Ok X c (.Call (.Attribute o name apos) args [] pos) := by
  obtain ⟨x, p, rfl, h1, h2, h3, h4, h5⟩ := own_slot h hi
  unfold reMtO
  split
  · rename_i pu g e
    obtain ⟨id, m1, m2, m3⟩ := mt_of (X := X) (c := c) e
    refine re_cond fun hq => ?_
    simp only [Bool.and_eq_true] at hq
    obtain ⟨⟨⟨⟨⟨q1, q2⟩, q3⟩, q4⟩, q5⟩, q6⟩ := hq
    cases args with
    | nil => exact ev_mt0 h.F m1 PySem.F.plainAttrs_list m2 m3 h1 h2 h3 h4 h5 q6
    | cons a as =>
      refine ev_mt h.F m1 PySem.F.plainAttrs_list m2 m3 h1 h2 h3 h4 h5 q6 (hr q1) q2 q4 (of_decide_eq_true q5) fun z => ?_
      rw [z] at q3
      exact q3
  · exact ev_no
theorem base_of {o : Expr} {name : Str} {env : Env} (h : plainBase o = true) : attributeBase o name env (eval o env) = eval o env := by
  cases o with
  | Call f args kws p =>
    cases args with
    | nil => cases kws with
      | nil => cases h
      | cons _ _ => cases f <;> rfl
    | cons _ _ => cases f <;> rfl
  | _ => rfl
structure MtPk (X : Cx) (c : Cn) (T : String) (name : Str) (g : D → List D → Option D) : Prop where
  ex : ∃ id, MtP X c T id g .new ∧ Slot T name id ∧ typeOf (.builtin id) = pure (.type "method_descriptor") ∧ PlainAttrs T
theorem mp_of (h : CtxOk X c s) {T : String} {name : Str} {g : D → List D → Option D} (hT : T = "str" ∨ T = "list") (e : mtP name T = some g) : MtPk X c T name g := by
  unfold mtP at e
  rcases hT with rfl | rfl
  · rw [if_pos (by decide)] at e
    split at e
    · rename_i h1
      cases e
      rw [beq_iff_eq.mp h1]
      exact ⟨_, mp_join h.F, PySem.F.slot_str_join, PySem.F.type_str_join, PySem.F.plainAttrs_str⟩
    · split at e
      · rename_i h1
        cases e
        rw [beq_iff_eq.mp h1]
        exact ⟨_, mp_split, PySem.F.slot_str_split, PySem.F.type_str_split, PySem.F.plainAttrs_str⟩
      · split at e
        · rename_i h1
          cases e
          rw [beq_iff_eq.mp h1]
          exact ⟨_, mp_sindex, PySem.F.slot_str_index, PySem.F.type_str_index, PySem.F.plainAttrs_str⟩
        · cases e
  · rw [if_neg (by decide)] at e
    split at e
    · rename_i h1
      cases e
      rw [beq_iff_eq.mp h1]
      exact ⟨_, mp_lindex h.F h.hu, PySem.F.slot_list_index, PySem.F.type_list_index, PySem.F.plainAttrs_list⟩
    · split at e
      · rename_i h1
        cases e
        rw [beq_iff_eq.mp h1]
        exact ⟨_, mp_lcount h.F h.hu, PySem.F.slot_list_count, PySem.F.type_list_count, PySem.F.plainAttrs_list⟩
      · cases e
theorem re_mtP (h : CtxOk X c s) {T : String} (hT : T = "str" ∨ T = "list") {o : Expr} {name : Str} {apos : Pos} {args : List Expr} {a : Re} {r : Ra} (ha : a.Ok X c o) (hr : r.Ok X c args) : (reMtP T o name apos pos args a r).Ok X c (.Call (.Attribute o name apos) args [] pos) := by
  unfold reMtP
  split
  · rename_i g e
    obtain ⟨id, m1, m2, m3, m4⟩ := mp_of h hT e
    refine re_cond fun hq => ?_
    simp only [Bool.and_eq_true] at hq
    obtain ⟨⟨⟨⟨⟨⟨⟨⟨q1, q2⟩, q3⟩, q4⟩, q5⟩, q6⟩, q7⟩, q8⟩, q9⟩ := hq
    cases args with
    | nil => cases q6
    | cons b bs => exact ev_pm h.F m1 m4 m2 m3 ha (hr q1) q2 q3 q4 q5 (of_decide_eq_true q7) (base_of q9) q8
  · exact ev_no
/-! what is gone through -/
abbrev Rs.OkS (X : Cx) (c : Cn) (e : Expr) (r : Rs) : Prop := r.ok = true → SrcOk X c e r.js r.q r.m
abbrev Rs.OkI (X : Cx) (c : Cn) (tg e : Expr) (r : Rs) : Prop := r.ok = true → ItOk X c tg e r.js r.q r.m
theorem rs_ex {e : Expr} {a : Re} (ha : a.Ok X c e) : (rsEx a).OkS X c e := by
  unfold rsEx
  cases q : a.l.p with
  | true => exact fun _ => src_ex ha q
  | false => exact fun h => by cases h
theorem rs_own (h : CtxOk X c s) {e : Expr} {i : Nat} (q : ownSlot s e = some i) : SrcOk X c e [i] true (M.srcOwn i) := by
  obtain ⟨x, p, rfl, h1, h2, h3, h4, h5⟩ := own_slot h q
  exact src_own h1 h2 h3 h4 h5
theorem rs_rg (h : CtxOk X c s) {tg : Expr} {x : Str} {p : Pos} {args : List Expr} {r : Ra} (hx : (x == ("range" : Str)) = true) (hg : glB s x = true) (hr : r.Ok X c args) : (rsRg args r).OkI X c tg (.Call (.Name x p) args [] pos) := by
  have hx := beq_iff_eq.mp hx
  have hm : X.mg x = none := h.G.b x (by rw [hx]; exact List.contains_iff_mem.mp (by decide))
  unfold rsRg
  cases q : (r.ok && r.ls.all (·.t) && args.all notStar) with
  | false => exact fun h => by cases h
  | true =>
    simp only [Bool.and_eq_true] at q
    match args, q with
    | [], _ => exact fun h => by cases h
    | [a], q => exact fun _ => it_rg1 (hr q.1.1) q.1.2 hx (h.gl hg) hm (by simpa using q.2)
    | [a, b], q =>
      have q2 : notStar a = true ∧ notStar b = true := by simpa using q.2
      exact fun _ => it_rg2 (hr q.1.1) q.1.2 hx (h.gl hg) hm q2.1 q2.2
    | [a, b, d], q =>
      have q2 : notStar a = true ∧ notStar b = true ∧ notStar d = true := by simpa using q.2
      exact fun _ => it_rg3 (hr q.1.1) q.1.2 hx (h.gl hg) hm q2.1 (by simp [q2.2.1, q2.2.2])
    | _ :: _ :: _ :: _ :: _, _ => exact fun h => by cases h
/-! targets -/
theorem g_sound : ∀ (n : Nat) (s : Sx) (X : Cx) (c : Cn), CtxOk X c s → (∀ e, (cG n s e).ok = true → TgOk X c e (cG n s e).ts (cG n s e).g) ∧ (∀ es, (cGs n s es).ok = true → TgsOk X c es (cGs n s es).ts (cGs n s es).g)
  | 0, s, X, c, h => ⟨(fun e q => by cases q), (fun es q => by cases q)⟩
  | n + 1, s, X, c, h => by
    obtain ⟨ih1, ih2⟩ := g_sound n s X c h
    refine ⟨fun e q => ?_, fun es q => ?_⟩
    · cases e with
      | Name x p =>
        unfold cG at q ⊢
        dsimp only at q ⊢
        cases e1 : slotGo x s.N 0 with
        | none => rw [e1] at q; cases q
        | some i =>
          rw [e1] at q
          simp only [Bool.and_eq_true] at q
          obtain ⟨l1, l2⟩ := h.loc q.1
          exact tg_name (by rw [h.N]; exact h.nd) (h.slot e1) l1 l2 (by rw [h.own]; simpa using q.2)
      | Tuple es k p =>
        unfold cG at q ⊢
        dsimp only at q ⊢
        simp only [Bool.and_eq_true] at q
        exact tg_tup (h.hc q.2) h.F (ih2 es q.1.1) q.1.2
      | _ => cases q
    · cases es with
      | nil => exact tgs_nil
      | cons e es =>
        unfold cGs at q ⊢
        dsimp only at q ⊢
        simp only [Bool.and_eq_true] at q
        exact tgs_cons (ih1 e q.1.1) (ih2 es q.1.2) q.2
/-! a block -/
theorem CtxOk.blk (h : CtxOk X c s) {scope : Scope} (b : Bk) : CtxOk (b.cx X scope) c.nox (s.blk scope) :=
  ⟨⟨h.F.K, h.F.mg⟩, takes0, h.hc, h.N, h.nd, (by show relS scope X.env.scope = relS scope s.sc; rw [h.sc]), (fun z => by cases z), h.hu, (fun z => ⟨(h.hr z).hd, (h.hr z).dp, (h.hr z).un⟩), h.S, h.P, h.Fx, h.fr, h.G, h.H, (fun z => by cases z)⟩
theorem fsi_of {iter : Expr} (h : notSetE iter = true) {env : Env} : ∀ x, foldedSetIterable iter env x = pure x := fun x => by
  cases iter <;> first | rfl | (cases h; done)
theorem re_lc (h : CtxOk X c s) {scope : Scope} {elt tg iter : Expr} {ifs : List Expr} {it : Rs} {g : Rg} {t : Rt} {e : Re} (hi : it.OkI X c tg iter) (hg : ∀ b : Bk, g.ok = true → TgOk (b.cx X scope) c.nox tg g.ts g.g) (ht : ∀ b : Bk, TsOk (b.cx X scope) c.nox ifs t.q t.m) (he : ∀ b : Bk, e.Ok (b.cx X scope) c.nox elt) :
    (reLc s scope iter it g t e).Ok X c (.ListComp elt [⟨tg, iter, ifs, 0⟩] scope pos) := by
  unfold reLc
  refine re_cond fun hq => ?_
  simp only [Bool.and_eq_true] at hq
  obtain ⟨⟨⟨⟨⟨⟨⟨q1, q2⟩, q3⟩, q4⟩, q5⟩, q6⟩, q7⟩, q8⟩ := hq
  refine ev_lc h.F (h.hc q8) (by rw [h.N]; exact h.nd) (hi q1) (blkOk_by (by rw [h.N, h.sc]; exact q4)) (fun b => hg b q2) ht he q3 q5 ?_ (fsi_of q7)
  rw [h.S]; exact q6
theorem ts_ifs {f : Expr → Rt} (h : ∀ e, (f e).Ok X c e) : ∀ ifs : List Expr, TsOk X c ifs (ifsOf f ifs).q (ifsOf f ifs).m
  | [] => ts_nil
  | [e] => ts_one (h e)
  | _ :: _ :: _ => ⟨fun _ _ _ => False, ⟨fun _ _ _ _ _ _ h => h.elim⟩, fun _ _ _ _ _ _ _ h => h⟩
theorem tru_of' {e : Expr} (h : isTrueP e = true) {env : Env} : ∀ whole, isTrue e env whole = (do let v ← whole; standAt e.pos; holding [v] (truthy v)) := fun whole => by
  cases e with
  | UnaryOp op a p => cases op <;> first | rfl | (cases h; done)
  | _ => first | rfl | (cases h; done)
end
end Cr
end
section
set_option Elab.async false
set_option linter.all false
set_option maxRecDepth 100000
set_option maxHeartbeats 4000000
namespace Cr
open PySem PySem.Spec L2
set_option autoImplicit false
structure Snd (n : Nat) : Prop where
  E : ∀ s e X c, CtxOk X c s → (cE n s e).Ok X c e
  T : ∀ s e X c, CtxOk X c s → (cT n s e).Ok X c e
  TB : ∀ s op es pos X c, CtxOk X c s → TwOk X c (.BoolOp op es pos) (cTB n s op es).q (cTB n s op es).m
  B : ∀ s op es pos X c, CtxOk X c s → (cB n s op es).Ok X c (.BoolOp op es pos)
  A : ∀ s es X c, CtxOk X c s → (cA n s es).Ok X c es
  C : ∀ s es X c, CtxOk X c s → (cC n s es).Ok X c es
  S : ∀ s e X c, CtxOk X c s → (cS n s e).OkS X c e
  I : ∀ s tg e X c, CtxOk X c s → (cI n s tg e).OkI X c tg e
theorem snd0 : Snd 0 := ⟨fun _ _ _ _ _ => ev_no, fun _ _ _ _ _ => tt_no, fun _ _ _ _ _ _ _ => tw_no, fun _ _ _ _ _ _ _ => ev_no, (fun _ _ _ _ _ h => by cases h), fun _ _ _ _ _ => ⟨(fun h => by cases h), (fun i j h => by cases h), (fun h => by cases h)⟩, (fun _ _ _ _ _ h => by cases h), (fun _ _ _ _ _ _ h => by cases h)⟩
theorem same_extN {H H1 : Hp} (e : LamX.ExtN H H1) : Same H H1 := fun b o eb n => e b o eb fun ps z => by rw [z] at n; cases n
section
variable {n : Nat} {s : Sx} {X : Cx} {c : Cn}
/-- x(lambda: body) -/
theorem re_lam (ih : Snd n) (h : CtxOk X c s) {x w : Str} {hh : Xc → Option D} {params : Arguments} {scope : Scope} {body : Expr} {p lpos pos : Pos} (hx : okNm x = true) (hg : glB s x = true) (hk : gkGo x s.G = some (.lamw w hh)) :
    (reLam s x params scope w hh (cE n (s.lm scope) body)).Ok X c (.Call (.Name x p) [.Lambda params body scope lpos] [] pos) := by
  unfold reLam
  refine re_cond fun hq => ?_
  simp only [Bool.and_eq_true, decide_eq_true_eq] at hq
  obtain ⟨⟨⟨⟨q1, q2⟩, q3⟩, q4⟩, q5⟩ := hq
  obtain ⟨g, pg, bg, sg, dV, kV, doc, pm, cdv, ct, oc, an, od, osl, Ng, a, m1, m2, m3, m4, m5, m6, m7, m8, m9, m10, tt⟩ := h.G.k _ (gkGo_some hk)
  obtain ⟨cc, T, TB, hcode, hmT, hu⟩ := h.L q1
  have hr := h.hr q2
  have r2 : Room (s.lv - 2 + 2) X.A := by rw [show s.lv - 2 + 2 = s.lv by omega]; exact hr
  have uw : ∀ s : Shared, (X.A.deeper (PyProof.Rows.envOfC x sg s.heap.objs.size g cdv)).units + 65 < cLine := fun s1 => by
    have := (r2.deeper (PyProof.Rows.envOfC x sg s1.heap.objs.size g cdv)).un
    omega
  obtain ⟨TT, hT, tr⟩ := tt X rfl rfl rfl rfl rfl uw
  have bd : ∀ (A : Around) (outer : List Env) (s1 : Shared) (H : Hp) (E : XK) (f c' : Addr), Room (s.lv - 2) (A.deeper (LamX.lamEnv X scope s1.heap.objs.size f c')) → PE (LamX.lamCx X A outer s1 H E scope f c') body (tLb c (cE n (s.lm scope) body).l (cE n (s.lm scope) body).q (cE n (s.lm scope) body).m E) := fun A outer s1 H E f c' hr => by
    have cx : CtxOk (LamX.lamCx X A outer s1 H E scope f c') { c with W := fun cls d _ H => E cls d H } (s.lm scope) :=
      ⟨⟨h.F.K, h.F.mg⟩, L2.takes_of rfl rfl rfl rfl, fun _ => rfl, h.N, h.nd, rfl, (fun z => by cases z), (by have := hr.un; show (A.deeper (LamX.lamEnv X scope s1.heap.objs.size f c')).units + 65 < cLine; omega), fun _ => hr, h.S, h.P, h.Fx, h.fr, h.G, h.H, (fun z => by cases z)⟩
    obtain ⟨te, p, t⟩ := ih.E _ body _ _ cx
    exact ⟨fun pins s0 σ H0 Q I hh => by
      obtain ⟨O, U, ρ, st, hr⟩ := hh
      exact p.run pins s0 σ H0 Q I (t O U σ H0 ρ Q st hr)⟩
  have pl : ∃ (z : params = ⟨[], [], none, [], [], none, []⟩), True := by
    unfold plainArgs at q4
    split at q4
    · exact ⟨rfl, trivial⟩
    · cases q4
  obtain ⟨rfl, _⟩ := pl
  refine ⟨_, LamX.pe_lamcall (k := s.lv - 2) (h.gl hg) m1 m2 m3 m4 m5 m6 m7 m8 (hT _) TB hcode hmT hu r2 (LamX.lamS_by (by rw [h.sc]; exact q5)) rfl (fun _ _ _ _ _ => rfl) bd (okNm_1 hx).1 m9 m10, fun O U σ H ρ Q st hres => ?_⟩
  rw [← h.F.K] at st
  refine ⟨st.tab, fun H1 eN tb => ?_⟩
  have st' := st.sameT (same_extN eN) tb
  rw [h.F.K] at st'
  exact tr c _ _ _ O U σ H1 ρ Q h.F.K.symm h.F.mg.symm st' (Res.at ant_rpl st' (Keep.of_same (same_extN eN)) (fun z => by cases z) hres)
theorem snd_call (ih : Snd n) (h : CtxOk X c s) {f : Expr} {args : List Expr} {kws : List Keyword} {pos : Pos} : (cE (n + 1) s (.Call f args kws pos)).Ok X c (.Call f args kws pos) := by
  show Re.Ok X c _ (cond kws.isEmpty _ no)
  refine re_cond fun hk => ?_
  have hk : kws = [] := by simpa using hk
  subst hk
  cases f with
  | Name x p =>
    refine re_cond (b := okNm x && glB s x) fun hq => ?_
    rw [Bool.and_eq_true] at hq
    cases eg : gkGo x s.G with
    | some k =>
      cases k with
      | fn vs =>
        refine re_cond (b := s.calm) fun hcm => ?_
        cases args with
        | nil => exact re_call0 hcm h hq.1 hq.2 eg
        | cons a as => exact re_call hcm h hq.1 hq.2 eg (ih.C s (a :: as) X c h)
      | lamw w hh =>
        match args with
        | [] => exact ev_no
        | [a] =>
          cases a with
          | Lambda params body scope lpos => exact re_lam ih h hq.1 hq.2 eg
          | _ => exact ev_no
        | a :: _ :: _ => cases a <;> exact ev_no
      | _ => exact ev_no
    | none =>
      cases ei : (x == ("isinstance" : Str)) with
      | false => exact re_blt h hq.1 hq.2 (ih.A s args X c h)
      | true =>
        match args with
        | [] => exact ev_no
        | [_] => exact ev_no
        | [e, t] => exact re_isi h ei hq.2 (ih.E s e X c h)
        | _ :: _ :: _ :: _ => exact ev_no
  | Attribute o name apos =>
    show Re.Ok X c _ (match ownSlot s o, mtO name with
      | some i, some _ => reMtO i name apos pos args (cA n s args)
      | _, _ => cond (name == "join" || name == "split") (reMtP "str" o name apos pos args (cE n s o) (cA n s args)) (cond (name == "index" || name == "count")
          (cond (strish s o) (reMtP "str" o name apos pos args (cE n s o) (cA n s args)) (reMtP "list" o name apos pos args (cE n s o) (cA n s args))) no))
    have rest : Re.Ok X c (.Call (.Attribute o name apos) args [] pos) (cond (name == "join" || name == "split") (reMtP "str" o name apos pos args (cE n s o) (cA n s args)) (cond (name == "index" || name == "count")
          (cond (strish s o) (reMtP "str" o name apos pos args (cE n s o) (cA n s args)) (reMtP "list" o name apos pos args (cE n s o) (cA n s args))) no)) := by
      have m : ∀ {T}, T = "str" ∨ T = "list" → Re.Ok X c (.Call (.Attribute o name apos) args [] pos) (reMtP T o name apos pos args (cE n s o) (cA n s args)) := fun hT => re_mtP h hT (ih.E s o X c h) (ih.A s args X c h)
      cases (name == ("join" : Str) || name == ("split" : Str)) with
      | true => exact m (.inl rfl)
      | false =>
        refine re_cond (b := name == ("index" : Str) || name == ("count" : Str)) fun _ => ?_
        cases strish s o with
        | true => exact m (.inl rfl)
        | false => exact m (.inr rfl)
    split
    · rename_i i k e1 e2
      exact re_mtO h e1 (ih.A s args X c h)
    · exact rest
  | _ => exact ev_no
theorem snd_lc (ih : Snd n) (h : CtxOk X c s) {elt : Expr} {gens : List Comprehension} {scope : Scope} {pos : Pos} : (cE (n + 1) s (.ListComp elt gens scope pos)).Ok X c (.ListComp elt gens scope pos) := by
  match gens with
  | [] => exact ev_no
  | [⟨tg, iter, ifs, k⟩] =>
    have main : Re.Ok X c (.ListComp elt [⟨tg, iter, ifs, 0⟩] scope pos) (cE (n + 1) s (.ListComp elt [⟨tg, iter, ifs, 0⟩] scope pos)) := by
      exact re_lc h (ih.I s tg iter X c h) (fun b q => (g_sound n (s.blk scope) _ _ (h.blk b)).1 tg q) (fun b => ts_ifs (fun e => ih.T (s.blk scope) e _ _ (h.blk b)) ifs) (fun b => re_cond fun _ => ih.E (s.blk scope) elt _ _ (h.blk b))
    cases k with
    | ofNat m => cases m with
      | zero => exact main
      | succ m => exact ev_no
    | negSucc m => exact ev_no
  | ⟨tg, iter, ifs, k⟩ :: g2 :: r =>
    cases k with
    | ofNat m => cases m with
      | zero => exact ev_no
      | succ m => exact ev_no
    | negSucc m => exact ev_no
theorem snd_E (ih : Snd n) (h : CtxOk X c s) (e : Expr) : (cE (n + 1) s e).Ok X c e := by
  cases e with
  | Constant k j p => exact ev_con'
  | Name x p => exact ev_name h
  | BinOp a op b p => exact re_bin h (ih.E s a X c h) (ih.E s b X c h)
  | UnaryOp op a p => exact re_un (ih.E s a X c h)
  | BoolOp op vs p => exact ih.B s op vs p X c h
  | IfExp t a b p => exact ev_if (ih.T s t X c h) (ih.E s a X c h) (ih.E s b X c h)
  | Compare a ops bs p =>
    match ops, bs with
    | [op], [b] => exact re_cmp h (ih.E s a X c h) (ih.E s b X c h)
    | [op, op'], [b, d] => exact re_chain h (ih.E s a X c h) (ih.E s b X c h) (ih.E s d X c h)
    | [], _ => exact ev_no
    | [_], [] => exact ev_no
    | [_], _ :: _ :: _ => exact ev_no
    | [_, _], [] => exact ev_no
    | [_, _], [_] => exact ev_no
    | [_, _], _ :: _ :: _ :: _ => exact ev_no
    | _ :: _ :: _ :: _, _ => exact ev_no
  | Subscript a b p =>
    have ix : ∀ b : Expr, Re.Ok X c (.Subscript a b p) (match ownSlot s a with
        | some j => reIxO j b (cE n s b)
        | none => reIx b (cE n s a) (cE n s b)) := fun b => by
      cases eo : ownSlot s a with
      | some j => exact re_ixO h eo (ih.E s b X c h)
      | none => exact re_ix h (ih.E s a X c h) (ih.E s b X c h)
    cases b with
    | Slice lo hi st p2 =>
      cases st with
      | none => exact re_cut h (ih.E s a X c h) (po_of fun e _ => ih.E s e X c h) (po_of fun e _ => ih.E s e X c h)
      | some z => exact ix _
    | _ => exact ix _
  | Tuple es k p => exact re_tup (ih.A s es X c h)
  | List es p => exact re_lst (ih.A s es X c h)
  | ListComp elt gens scope p => exact snd_lc ih h
  | Call f args kws p => exact snd_call ih h
  | _ => exact ev_no
theorem snd_T (ih : Snd n) (h : CtxOk X c s) (e : Expr) : (cT (n + 1) s e).Ok X c e := by
  have tru : ∀ {e : Expr}, isTrueP e = true → (rtTru (cE n s e)).Ok X c e := fun {e} he => tt_truth h.F (ih.E s e X c h) (tru_of' he)
  cases e with
  | UnaryOp op a p =>
    cases op with
    | Not => exact tt_not (ih.T s a X c h)
    | _ => exact tru rfl
  | BoolOp op vs p => exact (ih.TB s op vs p X c h).tt
  | Compare a ops bs p =>
    match ops, bs with
    | [op], [b] => exact rt_cmp h (ih.E s a X c h) (ih.E s b X c h)
    | [op, op'], [b, d] => exact rt_chain h (ih.E s a X c h) (ih.E s b X c h) (ih.E s d X c h)
    | [], _ => exact tt_no
    | [_], [] => exact tt_no
    | [_], _ :: _ :: _ => exact tt_no
    | [_, _], [] => exact tt_no
    | [_, _], [_] => exact tt_no
    | [_, _], _ :: _ :: _ :: _ => exact tt_no
    | _ :: _ :: _ :: _, _ => exact tt_no
  | IfExp t a b p => exact tt_no
  | _ => exact tru rfl
theorem snd_I (ih : Snd n) (h : CtxOk X c s) (tg e : Expr) : (cI (n + 1) s tg e).OkI X c tg e := by
  have plain : ∀ {e : Expr}, (cS n s e).OkI X c tg e := fun {e} q => it_src h.F (ih.S s e X c h q)
  have none_ : rsNo.OkI X c tg e := fun q => by cases q
  cases e with
  | Call f args kws p =>
    cases kws with
    | cons _ _ => cases f <;> exact plain
    | nil =>
      cases f with
      | Name x p2 =>
        show Rs.OkI X c tg _ (cond (glB s x && okNm x) _ rsNo)
        cases hq : (glB s x && okNm x) with
        | false => exact none_
        | true =>
          rw [Bool.and_eq_true] at hq
          show Rs.OkI X c tg _ (match gkGo x s.G with
            | some _ => cS n s (.Call (.Name x p2) args [] p)
            | none => _)
          cases eg : gkGo x s.G with
          | some k => exact plain
          | none =>
            have hmem : ∀ {y : Str}, (x == y) = true → bltL.contains y = true → X.mg x = none := fun {y} h1 h2 => h.G.b x (by rw [beq_iff_eq.mp h1]; exact List.contains_iff_mem.mp h2)
            show Rs.OkI X c tg _ (cond (x == ("range" : Str)) _ _)
            cases er : (x == ("range" : Str)) with
            | true => exact rs_rg h er hq.1 (ih.A s args X c h)
            | false =>
              show Rs.OkI X c tg _ (cond (x == ("enumerate" : Str) && isTupE tg) _ _)
              cases ee : (x == ("enumerate" : Str) && isTupE tg) with
              | true =>
                rw [Bool.and_eq_true] at ee
                match args with
                | [] => exact none_
                | [a] =>
                  show Rs.OkI X c tg _ (cond ((cS n s a).ok && notStar a) _ rsNo)
                  cases q : ((cS n s a).ok && notStar a) with
                  | false => exact none_
                  | true =>
                    rw [Bool.and_eq_true] at q
                    cases tg with
                    | Tuple elts kk tp => exact fun _ => it_enum h.F (ih.S s a X c h q.1) (beq_iff_eq.mp ee.1) (h.gl hq.1) (hmem ee.1 (by decide)) q.2
                    | _ => cases ee.2
                | _ :: _ :: _ => exact none_
              | false =>
                show Rs.OkI X c tg _ (cond (x == ("zip" : Str) && isTupE tg) _ _)
                cases ez : (x == ("zip" : Str) && isTupE tg) with
                | true =>
                  rw [Bool.and_eq_true] at ez
                  match args with
                  | [] => exact none_
                  | [_] => exact none_
                  | [a, b] =>
                    show Rs.OkI X c tg _ (cond ((cS n s a).ok && (cS n s b).ok && ((cS n s a).js.isEmpty || (cS n s b).q) && notStar a && notStar b) _ rsNo)
                    cases q : ((cS n s a).ok && (cS n s b).ok && ((cS n s a).js.isEmpty || (cS n s b).q) && notStar a && notStar b) with
                    | false => exact none_
                    | true =>
                      simp only [Bool.and_eq_true] at q
                      cases tg with
                      | Tuple elts kk tp => exact fun _ => it_zip h.F (ih.S s a X c h q.1.1.1.1) (ih.S s b X c h q.1.1.1.2) q.1.1.2 (beq_iff_eq.mp ez.1) (h.gl hq.1) (hmem ez.1 (by decide)) q.1.2 q.2
                      | _ => cases ez.2
                  | _ :: _ :: _ :: _ => exact none_
                | false => exact plain
      | _ => exact plain
  | _ => exact plain
theorem snd_S (ih : Snd n) : Snd (n + 1) := by
  refine ⟨fun s e X c h => snd_E ih h e, fun s e X c h => snd_T ih h e, fun s op es pos X c h => ?_, fun s op es pos X c h => ?_, fun s es X c h => ?_, fun s es X c h => ?_, fun s e X c h => ?_, fun s tg e X c h => snd_I ih h tg e⟩
  · match es with
    | [] => exact tw_no
    | [a] => cases op with
      | And => exact tw_and1 (ih.T s a X c h)
      | Or => exact tw_or1 (ih.T s a X c h)
    | a :: b :: rest => cases op with
      | And => exact tw_and (ih.T s a X c h) (ih.TB s .And (b :: rest) pos X c h)
      | Or => exact tw_or (ih.T s a X c h) (ih.TB s .Or (b :: rest) pos X c h)
  · match es with
    | [] => exact ev_no
    | [a] => exact ev_one (ih.E s a X c h)
    | a :: b :: rest => cases op with
      | And => exact ev_and (ih.E s a X c h) (ih.B s .And (b :: rest) pos X c h)
      | Or => exact ev_or (ih.E s a X c h) (ih.B s .Or (b :: rest) pos X c h)
  · cases es with
    | nil => exact fun _ => a_nil
    | cons e es => exact ra_cons (ih.E s e X c h) (ih.A s es X c h)
  · cases es with
    | nil => exact rc_nil
    | cons e es =>
      show Rc.Ok X c _ (match ownSlot s e with
        | some i => rcOwn i (cC n s es)
        | none => rcVal e (cE n s e) (cC n s es))
      cases q : ownSlot s e with
      | some i => exact rc_own h q (ih.C s es X c h)
      | none => exact rc_val (ih.E s e X c h) (ih.C s es X c h)
  · show Rs.OkS X c e (match ownSlot s e with
      | some i => ⟨true, [i], true, M.srcOwn i⟩
      | none => rsEx (cE n s e))
    cases q : ownSlot s e with
    | some i => exact fun _ => rs_own h q
    | none => exact rs_ex (ih.E s e X c h)
end
theorem snd : ∀ n, Snd n
  | 0 => snd0
  | n + 1 => snd_S (snd n)
end Cr
end
section
set_option Elab.async false
set_option linter.all false
set_option maxRecDepth 100000
set_option maxHeartbeats 4000000
namespace Cr
open PySem PySem.Spec L2
set_option autoImplicit false
/-! ### what a suite does with the exception that it holds -/
def ancGo (x : Str) : List (Str × List Str) → Option (List Str)
  | [] => none
  | (y, a) :: r => if y == x then some a else ancGo x r
theorem ancGo_some {x : Str} {a : List Str} : ∀ {H : List (Str × List Str)}, ancGo x H = some a → (x, a) ∈ H
  | [], h => by cases h
  | (y, k') :: r, h => by
    unfold ancGo at h
    split at h
    · cases h
      have : y = x := beq_iff_eq.mp (by assumption)
      subst this
      exact List.mem_cons_self
    · exact List.mem_cons_of_mem _ (ancGo_some h)
def isSub (H : List (Str × List Str)) (x c : Str) : Option Bool := match ancGo x H, ancGo c H with
  | some a, some _ => some (a.contains c)
  | _, _ => none
theorem isSub_some {K : Fr} {mg : Str → Option Value} {H : List (Str × List Str)} (h : XOk K mg H) {x c : Str} {b : Bool} (e : isSub H x c = some b) :
    ∃ C C', mg x = some (.ref C) ∧ mg c = some (.ref C') ∧ ExcC K C ∧ XfC K C ∧ PySem.W.exmOne K (.ref C) (.ref C') = some b ∧ PySem.W.kitOne K (.ref C) (.ref C') = some b := by
  unfold isSub at e
  split at e
  · rename_i a a' e1 e2
    cases e
    obtain ⟨C, m1, f1, f2, q⟩ := h.at_ _ (ancGo_some e1)
    obtain ⟨C', m2, q1, q2⟩ := q _ (ancGo_some e2)
    exact ⟨C, C', m1, m2, f1, f2, q1, q2⟩
  · cases e
def allSub (H : List (Str × List Str)) (x : Str) : List Str → Option (List Bool)
  | [] => some []
  | c :: r => match isSub H x c, allSub H x r with
    | some b, some bs => some (b :: bs)
    | _, _ => none
def isX (s : Sx) (i : Nat) : Expr → Bool
  | .Name y _ => okNm y && visB s y && (slotGo y s.N 0 == some i)
  | _ => false
def isi1 (s : Sx) (i : Nat) : Expr → Option Str
  | .Call (.Name f _) [e, .Name C _] [] _ => cond ((f == ("isinstance" : Str)) && glB s f && isX s i e && okNm C && glB s C) (some C) none
  | _ => none
def isiL (s : Sx) (i : Nat) : List Expr → Option (List Str)
  | [] => some []
  | e :: r => match isi1 s i e, isiL s i r with
    | some c, some cs => some (c :: cs)
    | _, _ => none
def xfld (s : Sx) (f : Str) (x : Xc) : M D := match x.fld, gkGo x.cls s.G, ancGo x.cls s.H with
  | some (g, d), some (.ex1 h _), some _ => cond ((g == f) && (h == f)) (M.pure d) M.bad
  | _, _, _ => M.bad
def xbs (s : Sx) (cs : List Str) (x : Xc) : Option (List Bool) := match x.fld with
  | some _ => none
  | none => match allSub s.H x.cls cs with
    | some bs => if bs.length ≤ 100 then some bs else none
    | none => none
theorem xbs_some {s : Sx} {cs : List Str} {x : Xc} {bs : List Bool} (h : xbs s cs x = some bs) : x.fld = none ∧ allSub s.H x.cls cs = some bs ∧ bs.length ≤ 100 := by
  unfold xbs at h
  cases e : x.fld with
  | some _ => rw [e] at h; cases h
  | none =>
    rw [e] at h
    cases e2 : allSub s.H x.cls cs with
    | none => rw [e2] at h; cases h
    | some bs' =>
      rw [e2] at h
      dsimp only at h
      split at h
      · cases h; exact ⟨rfl, rfl, by assumption⟩
      · cases h
def xisi (s : Sx) (cs : List Str) (x : Xc) : M D := match xbs s cs x with
  | some bs => M.pure (.list (bs.map .bool))
  | none => M.bad
def exE (s : Sx) (i : Nat) : Expr → Option (Xc → M D)
  | .Attribute o f _ => cond (isX s i o) (some fun x => xfld s f x) none
  | .Tuple [.Constant (.str z) _ _, .Attribute o f _] _ _ => cond (isX s i o) (some fun x => (xfld s f x).bind fun d => M.pure (.tuple [.str z, d])) none
  | .List es _ => match isiL s i es with
    | some cs => some fun x => xisi s cs x
    | none => none
  | .BinOp (.Name y _) .Add (.List es _) _ => match slotGo y s.N 0, isiL s i es with
    | some j, some cs => cond (okNm y && visB s y && !s.S.contains j) (some fun x => (M.get j).bind fun d => (xisi s cs x).bind fun f => M.lift (dAdd d f)) none
    | _, _ => none
  | _ => none
/-- the exception at hand -/
structure XH (K : Fr) (mg : Str → Option Value) (x : Xc) (cls : Value) (d : Option Addr) : Prop where
  ex : ∃ C, mg x.cls = some (.ref C) ∧ cls = .ref C ∧ (x.fld = none → d = none)
structure EvX (X : Cx) (c : Cn) (i : Nat) (a : Addr) (cls : Value) (d : Option Addr) (x : Xc) (e : Expr) (m : M D) : Prop where
  ex : ∃ te, PE X e te ∧ ∀ O U σ H ρ Q, σ[i]? = some (some (.ref a)) → Sto c.K c.S O U σ H ρ → ExL c O U H x cls d → Res c (RpL c.K c.P .pur) O U σ H true (m ρ) Q → te σ H Q
section
variable {X : Cx} {c : Cn} {s : Sx} {i : Nat} {a : Addr} {cls : Value} {d : Option Addr} {x : Xc} {oe : Obj} {pn : List (Addr × Obj)}
theorem isX_pe (h : CtxOk X c s) {e : Expr} (q : isX s i e = true) : PE X e (tVar i) ∧ plainBase e = true ∧ notStar e = true := by
  cases e with
  | Name y p =>
    unfold isX at q
    simp only [Bool.and_eq_true] at q
    exact ⟨pe_var (h.slot (beq_iff_eq.mp q.2)) (h.vis q.1.2) (okNm_1 q.1.1).1 (okNm_1 q.1.1).2, rfl, rfl⟩
  | _ => cases q
theorem xno {e : Expr} : EvX X c i a cls d x e M.bad := ⟨fun _ _ _ => False, ⟨fun _ _ _ _ _ _ h => h.elim⟩, fun _ _ _ _ _ _ _ _ _ h => h⟩
theorem ex_fld (h : CtxOk (X.suite a ((a, oe) :: pn)) c s) (hz : Zc cls d oe) (hf : ∃ vs, oe.data = .fields vs) (xh : XH c.K c.mg x cls d) {o : Expr} {f : Str} {pos : Pos} (q : isX s i o = true) : EvX (X.suite a ((a, oe) :: pn)) c i a cls d x (.Attribute o f pos) (xfld s f x) := by
  obtain ⟨p1, p2, _⟩ := isX_pe h q
  unfold xfld
  split
  · rename_i g d0 hh k anc e1 e2 e3
    cases q2 : (g == f) && (hh == f) with
    | false => exact xno
    | true =>
      rw [Bool.and_eq_true] at q2
      have eg := beq_iff_eq.mp q2.1
      have eh := beq_iff_eq.mp q2.2
      obtain ⟨C, m1, rfl, _⟩ := xh.ex
      obtain ⟨C', fI, fd, ps, g1, g2, g3, g4, g5, g6, g7⟩ := h.G.k _ (gkGo_some e2)
      rw [← h.F.mg] at m1
      have : C' = C := by
        have := g6.symm.trans m1
        simpa using this
      subst this
      obtain ⟨C1, w1, _, w4, _⟩ := h.H.at_ _ (ancGo_some e3)
      have : C1 = C' := by
        have := w1.symm.trans m1
        simpa using this
      subst this
      rw [eh] at g7
      refine ⟨_, pe_xf w4 g7 hz hf p1 (base_of p2), fun O U σ H ρ Q es st ex hr => ⟨.ref a, es, rfl, rfl, ?_⟩⟩
      obtain ⟨_, _, _, h3⟩ := ex
      rw [e1] at h3
      obtain ⟨da, v, k1, k2, k3⟩ := h3
      exact ⟨da, [(g, v)], v, k1, k2, by rw [eg]; simp [List.lookup], hr v H st Keep.refl (fun _ => Same.refl H) (rpl_pur k3)⟩
  · exact xno
theorem rpl_p {K : Fr} {P : Nat → Bool} {l : Lv} {O : AS} {U : Nat → Option Addr} {H0 H : Hp} {T : AS → Prop} {v : V} {d : D} (r : RpL K P l O U H0 H T v d) (h : l.p = true) : RpL K P .pur O U H0 H T v d := rpl_pur (r.p h)
theorem ex_tup (h : CtxOk (X.suite a ((a, oe) :: pn)) c s) (hz : Zc cls d oe) (hf : ∃ vs, oe.data = .fields vs) (xh : XH c.K c.mg x cls d) {o : Expr} {f z : Str} {pos p2 p3 : Pos} {j k : Nat} (q : isX s i o = true) :
    EvX (X.suite a ((a, oe) :: pn)) c i a cls d x (.Tuple [.Constant (.str z) j p2, .Attribute o f p3] k pos) ((xfld s f x).bind fun d => M.pure (.tuple [.str z, d])) := by
  obtain ⟨te, p1, r1⟩ := ex_fld (pos := p3) h hz hf xh (f := f) q
  refine ⟨_, pe_tup (pa_cons pe_str (pa_cons p1 pa_nil (star_cons rfl)) (star_cons rfl)), fun O U σ H ρ Q es st ex hr => ?_⟩
  refine r1 O U σ H ρ _ es st ex ?_
  have hr : Res c (RpL c.K c.P .pur) O U σ H true ((xfld s f x ρ).bind fun d => M.pure (.tuple [.str z, d])) Q := hr
  cases e : xfld s f x ρ with
  | bad => rw [e] at hr; exact hr
  | exc y ρ1 => rw [e] at hr; exact hr
  | ok d0 ρ1 =>
    rw [e] at hr
    intro v H1 st1 k1 s1 rv
    refine ⟨by show 2 ≤ sizeLine; decide, fun p hp => ?_⟩
    have sm := same_new (o := .tup [.str z, v]) hp
    exact hr _ _ (st1.same sm) (k1.trans (Keep.of_same sm)) (fun z => (s1 z).trans sm) (rpl_pur (.tup (.inl upd_same) (.cons (.str z) (.cons ((Keep.of_same sm).rp (rv.p rfl)) .nil))))
/-- the flags -/
theorem isi_pa (h : CtxOk (X.suite a ((a, oe) :: pn)) c s) (hz : Zc cls none oe) (hf : ∃ vs, oe.data = .fields vs) (xh : XH c.K c.mg x cls none) : ∀ {es : List Expr} {cs : List Str} {bs : List Bool}, isiL s i es = some cs → allSub s.H x.cls cs = some bs →
    ∃ ta, PA (X.suite a ((a, oe) :: pn)) es ta ∧ ∀ σ H (Q : List V → Hp → Prop), σ[i]? = some (some (.ref a)) → Q (bs.map .bl) H → ta σ H Q
  | [], cs, bs, e1, e2 => by
    cases e1
    cases e2
    exact ⟨_, pa_nil, fun σ H Q _ q => q⟩
  | e :: r, cs, bs, e1, e2 => by
    unfold isiL at e1
    split at e1
    · rename_i c0 cs0 q1 q2
      cases e1
      unfold allSub at e2
      split at e2
      · rename_i b bs0 w1 w2
        cases e2
        obtain ⟨tr, pr, rr⟩ := isi_pa h hz hf xh q2 w2
        unfold isi1 at q1
        split at q1
        · rename_i fn p1 ee C p2 p3
          cases q3 : (fn == ("isinstance" : Str)) && glB s fn && isX s i ee && okNm C && glB s C with
          | false => rw [q3] at q1; cases q1
          | true =>
            rw [q3] at q1
            cases q1
            simp only [Bool.and_eq_true] at q3
            obtain ⟨⟨⟨⟨z1, z2⟩, z3⟩, z4⟩, z5⟩ := q3
            obtain ⟨y1, y2, y3⟩ := isX_pe h z3
            obtain ⟨A, A', m1, m2, f1, f2, g1, g2⟩ := isSub_some h.H w1
            obtain ⟨A0, n1, n2, _⟩ := xh.ex
            rw [← h.F.mg] at n1
            have : A = A0 := by
              have := m1.symm.trans n1
              simpa using this
            subst this
            subst n2
            have hx := beq_iff_eq.mp z1
            subst hx
            have hm : (X.suite a ((a, oe) :: pn)).mg "isinstance" = none := h.G.b _ (List.contains_iff_mem.mp (by decide))
            refine ⟨_, pa_cons (pe_callB (call_isE f1 hz hf) (h.gl z2) hm (by decide +kernel) (pa_cons y1 (pa_cons (pe_glob (v := .ref A') (h.gl z5) m2 rfl (okNm_1 z4).1) pa_nil (star_cons rfl)) (star_cons y3)) (by decide) (by decide) (star_cons y3) (noStars (es := [.Name c0 p2]) rfl)) pr (star_cons rfl), fun σ H Q es q => ?_⟩
            refine ⟨.ref a, es, .ref A', .ref A', b, rfl, fun u r => r, g2, rr σ H _ es q⟩
        · cases q1
      · cases e2
    · cases e1
theorem rp_bools {K : Fr} {A : AS} {H : Hp} : ∀ bs : List Bool, RpAll K A H (bs.map .bl) (bs.map .bool)
  | [] => .nil
  | b :: r => .cons (.bl b) (rp_bools r)
theorem ex_lst (h : CtxOk (X.suite a ((a, oe) :: pn)) c s) (hz : Zc cls d oe) (hf : ∃ vs, oe.data = .fields vs) (xh : XH c.K c.mg x cls d) {es : List Expr} {cs : List Str} {pos : Pos} (q : isiL s i es = some cs) :
    ∃ te, PE (X.suite a ((a, oe) :: pn)) (.List es pos) te ∧ ∀ O U σ H ρ Q, σ[i]? = some (some (.ref a)) → Sto c.K c.S O U σ H ρ → Res c (RpL c.K c.P .new) O U σ H true (xisi s cs x ρ) Q → te σ H Q := by
  cases hb : xbs s cs x with
  | none => exact ⟨fun _ _ _ => False, ⟨fun _ _ _ _ _ _ h => h.elim⟩, fun O U σ H ρ Q es st hr => by unfold xisi at hr; rw [hb] at hr; exact hr⟩
  | some bs =>
    obtain ⟨h1, h2, h3⟩ := xbs_some hb
    obtain ⟨_, _, _, hd⟩ := xh.ex
    have hd := hd h1
    subst hd
    obtain ⟨ta, pa, ra⟩ := isi_pa h hz hf xh q h2
    have hz100 : (100 : Nat) ≤ sizeLine := by decide
    refine ⟨_, pe_lst pa, fun O U σ H ρ Q es st hr => ra σ H _ es ⟨by rw [List.length_map]; omega, fun p hp => ?_⟩⟩
    have e : xisi s cs x ρ = .ok (.list (bs.map .bool)) ρ := by unfold xisi; rw [hb]; rfl
    rw [e] at hr
    have sm := same_new (o := .lst (bs.map V.bl)) hp
    exact hr _ _ (st.same sm) (Keep.of_same sm) (fun _ => sm) (rpl_lay (l := .new) st hp (rp_bools bs))
theorem ant_w {O : AS} {U : Nat → Option Addr} {σ : L2.St} {H : Hp} {q : Bool} {o : Oc D} {Q : VK} {l : Lv} (hp : l.p = true) (h : Res c (RpL c.K c.P .pur) O U σ H q o Q) : Res c (RpL c.K c.P l) O U σ H q o Q := by
  cases o with
  | ok a ρ => exact fun b H' st k s r => h b H' st k s (rpl_p r hp)
  | exc x ρ => exact h
  | bad => exact h
theorem ex_sound (h : CtxOk (X.suite a ((a, oe) :: pn)) c s) (hz : Zc cls d oe) (hf : ∃ vs, oe.data = .fields vs) (xh : XH c.K c.mg x cls d) {e : Expr} {f : Xc → M D} (q : exE s i e = some f) : EvX (X.suite a ((a, oe) :: pn)) c i a cls d x e (f x) := by
  unfold exE at q
  split at q
  · rename_i o fl p
    cases q1 : isX s i o with
    | false => rw [q1] at q; cases q
    | true => rw [q1] at q; cases q; exact ex_fld h hz hf xh q1
  · rename_i z j p2 o fl p3 k p
    cases q1 : isX s i o with
    | false => rw [q1] at q; cases q
    | true => rw [q1] at q; cases q; exact ex_tup h hz hf xh q1
  · rename_i es p
    split at q
    · rename_i cs e1
      cases q
      obtain ⟨te, p1, r1⟩ := ex_lst (pos := p) h hz hf xh e1
      exact ⟨te, p1, fun O U σ H ρ Q es st ex hr => r1 O U σ H ρ Q es st (ant_w rfl hr)⟩
    · cases q
  · rename_i y p1 es p2 p3
    split at q
    · rename_i j cs e1 e2
      cases q1 : okNm y && visB s y && !s.S.contains j with
      | false => rw [q1] at q; cases q
      | true =>
        rw [q1] at q
        cases q
        simp only [Bool.and_eq_true] at q1
        obtain ⟨te, pe, r1⟩ := ex_lst (pos := p2) h hz hf xh e2
        refine ⟨_, pe_op op_cat (pe_var (h.slot e1) (h.vis q1.1.2) (okNm_1 q1.1.1).1 (okNm_1 q1.1.1).2) pe, fun O U σ H ρ Q es st ex hr => ?_⟩
        have hr : Res c (RpL c.K c.P .pur) O U σ H true ((M.get j ρ).bind fun d => (xisi s cs x).bind fun f => M.lift (dAdd d f)) Q := hr
        rcases get_cases j ρ with ⟨d0, ed, zz⟩ | zz
        · rw [zz] at hr
          obtain ⟨v, ev, rv⟩ := st.dat j d0 ed (by rw [h.own]; simpa using q1.2)
          refine ⟨v, ev, r1 O U σ H ρ _ es st ?_⟩
          have hr : Res c (RpL c.K c.P .pur) O U σ H true ((xisi s cs x ρ).bind fun f => M.lift (dAdd d0 f)) Q := hr
          cases ex1 : xisi s cs x ρ with
          | bad => rw [ex1] at hr; exact hr
          | exc y ρ1 => rw [ex1] at hr; exact hr
          | ok f ρ1 =>
            rw [ex1] at hr
            intro w H1 st1 k1 s1 rw1
            have fb : ∃ bs, f = .list bs := by
              unfold xisi at ex1
              cases hb : xbs s cs x with
              | none => rw [hb] at ex1; cases ex1
              | some bs => rw [hb] at ex1; cases ex1; exact ⟨_, rfl⟩
            obtain ⟨bs, rfl⟩ := fb
            have hr : Res c (RpL c.K c.P .pur) O U σ H true (M.lift (dAdd d0 (.list bs)) ρ1) Q := hr
            unfold M.lift at hr
            cases d0 with
            | list as =>
                by_cases hl : as.length + bs.length ≤ sizeLine
                · have e9 : dAdd (.list as) (.list bs) = some (.list (as ++ bs)) := if_pos hl
                  rw [e9] at hr
                  obtain ⟨p1, vs, rfl, g1, r2⟩ := (k1.rp rv).eLst
                  obtain ⟨p2, ws, rfl, g2, r3⟩ := (rw1.p rfl).eLst
                  refine ⟨_, _, _, _, rfl, rfl, g1, g2, by rw [r2.length, r3.length]; exact hl, fun p hp => ?_⟩
                  have sm := same_new (o := .lst (vs ++ ws)) hp
                  exact hr _ _ (st1.same sm) (k1.trans (Keep.of_same sm)) (fun z => (s1 z).trans sm) (rpl_pur ((rpl_lay (P := c.P) (l := .new) st1 hp (r2.append r3)).p rfl))
                · have e9 : dAdd (.list as) (.list bs) = none := if_neg hl
                  rw [e9] at hr; exact hr.elim
            | _ => exact hr.elim
        · rw [zz] at hr; exact hr.elim
    · cases q
  · cases q
end
end Cr
end
section
set_option Elab.async false
set_option linter.all false
set_option maxRecDepth 100000
set_option maxHeartbeats 4000000
namespace Cr
open PySem PySem.Spec L2
set_option autoImplicit false
/-! ### the mirror of a statement, by its text -/
theorem sw2_some {x y : Str} {px py pt pt2 : Pos} {a b : Expr} {kt k2 : Nat} {env : Env} (hk : env.scope.kind = .function) (hx : env.scope.names.lookup x = some .local) (hy : env.scope.names.lookup y = some .local) (hl : (py.line == px.line) = true) (hxy : (y == x) = false)
    (na : notStar a = true) (nb : notStar b = true) (nf : ([a, b].all (foldedForSure 8)) = false) (nc : ([a, b].all (constantsAlone 8)) = false) :
    swappedStores [.Tuple [.Name x px, .Name y py] kt pt] (.Tuple [a, b] k2 pt2) env = pure (some [x, y]) := by
  have kx : env.kindOf x = some .local := hx
  have ky : env.kindOf y = some .local := hy
  have hb : env.blockKind = .function := by unfold Env.blockKind; rw [hk]; rfl
  have hn : ([Expr.Name x px, Expr.Name y py].filterMap fun
    | .Name id pos => if env.kindOf id == some .local && pos.line == px.line then some id else none
    | _ => none) = [x, y] := by
    simp [List.filterMap, kx, ky, hl]
  have hd : ([x, y].eraseDups.length != [x, y].length) = false := by
    simp [List.eraseDups, List.eraseDupsBy, List.eraseDupsBy.loop, hxy]
  unfold swappedStores
  show (if _ then _ else _) = _
  simp only [hb]
  rw [if_neg (by simp)]
  show (if _ then _ else _) = _
  rw [if_neg (by
    intro h
    simp only [List.any_cons, List.any_nil, Bool.or_false, Bool.or_eq_true] at h
    rcases h with h | h
    · cases a <;> first | (cases h; done) | (cases na; done)
    · cases b <;> first | (cases h; done) | (cases nb; done))]
  show (if (_ || _) = true then _ else _) = _
  rw [if_neg]
  · show (if _ then _ else _) = _
    rw [if_neg (by rw [nf]; decide)]
    show (if _ then _ else _) = _
    rw [if_neg (by rw [nc]; decide)]
    show pure (some _) = _
    exact congrArg (fun l => pure (some l)) hn
  · show ¬ ((_ || _) = true)
    erw [hn]
    rw [hd]; simp
theorem sw2_none {x y : Str} {px py pt pt2 : Pos} {a b : Expr} {kt k2 : Nat} {env : Env} (h : (env.scope.names.lookup x == some .local) = false ∨ (env.scope.names.lookup y == some .local) = false) (na : notStar a = true) (nb : notStar b = true) :
    swappedStores [.Tuple [.Name x px, .Name y py] kt pt] (.Tuple [a, b] k2 pt2) env = pure none := by
  have hn : ([Expr.Name x px, Expr.Name y py].filterMap fun
    | .Name id pos => if env.kindOf id == some .local && pos.line == px.line then some id else none
    | _ => none).length ≠ 2 := by
    have h : (env.kindOf x == some .local) = false ∨ (env.kindOf y == some .local) = false := h
    simp only [List.filterMap]
    rcases h with h | h
    · rw [h]
      simp only [Bool.false_and, Bool.false_eq_true, if_false]
      split <;> simp
    · rw [h]
      simp only [Bool.false_and, Bool.false_eq_true, if_false]
      split <;> simp
  unfold swappedStores
  show (if _ then _ else _) = _
  by_cases hb : env.blockKind = .function
  · simp only [hb]
    rw [if_neg (by simp)]
    show (if _ then _ else _) = _
    rw [if_neg (by
      intro h
      simp only [List.any_cons, List.any_nil, Bool.or_false, Bool.or_eq_true] at h
      rcases h with h | h
      · cases a <;> first | (cases h; done) | (cases na; done)
      · cases b <;> first | (cases h; done) | (cases nb; done))]
    show (if (_ || _) = true then _ else _) = _
    rw [if_pos]
    rw [Bool.or_eq_true]
    left
    simp only [bne_iff_ne, ne_eq]
    exact hn
  · rw [if_pos]
    rw [Bool.or_eq_true]
    right
    simpa using hb
theorem sw_len {ts vs : List Expr} {kt k2 : Nat} {pt pt2 : Pos} {env : Env} (h : (ts.length == 2 || ts.length == 3) = false) : swappedStores [.Tuple ts kt pt] (.Tuple vs k2 pt2) env = pure none := by
  unfold swappedStores
  show (if _ then _ else _) = _
  rw [if_pos]
  simp only [h]
  rfl
def notTup : Expr → Bool
  | .Tuple _ _ _ => false
  | _ => true
theorem sw_nt {tg e : Expr} {env : Env} (h : notTup e = true) : swappedStores [tg] e env = pure none := by
  cases e with
  | Tuple es k p => cases h
  | _ => cases tg <;> rfl
/-- name = [..] -/
def swapB (s : Sx) (x : Str) (p : Pos) (scope : Scope) (cp : Pos) : Bool := (match s.sc.kind with | .function => true | _ => false) && (match s.sc.names.lookup x with | some .local => true | _ => false) && (p.line == cp.line) && !(scope.names.any fun (n, k) => n == x && (k == .local || k == .cell))
theorem sw_lc {s : Sx} {x : Str} {p cp : Pos} {elt : Expr} {gs : List Comprehension} {scope : Scope} {l : Nat} {env : Env} (hsc : env.scope = s.sc) (hk : s.sc.kind = .function) : swapsWith (.ListComp elt gs scope cp) (some (.Name x p)) l env = pure (swapB s x p scope cp) := by
  have hb : env.blockKind = .function := by unfold Env.blockKind; rw [hsc, hk]; rfl
  have hkx : env.kindOf x = s.sc.names.lookup x := by unfold Env.kindOf; rw [hsc]
  unfold swapsWith swapB
  simp only [hb, hkx, hk, Expr.pos]
  cases s.sc.names.lookup x with
  | none => rfl
  | some k => cases k <;> rfl
structure StC (X : Cx) (c : Cn) (s : Sx) : Prop where
  x : CtxOk X c s
  po : s.calm = true → PassesOwn (model X.prog X.w) X.A X.env X.xe
  stk : s.calm = true → X.stack = X.env :: X.outer ∧ X.env.frame = some X.env.locals
def fnB (s : Sx) : Bool := match s.sc.kind with
  | .function => true
  | _ => false
theorem fnB_1 {s : Sx} (h : fnB s = true) : s.sc.kind = .function := by
  unfold fnB at h
  split at h
  · assumption
  · cases h
def isDoc : Expr → Bool
  | .Constant (.str _) _ _ => true
  | _ => false
def whileFuel : Nat := 1000
def mAsg (s : Sx) (i : Nat) (r : Re) : M Fl := cond (s.S.contains i) (cond (r.l.f && !s.P.contains i && !s.Fx.contains i) (M.asgO i r.m) M.bad) (cond r.l.p (M.asg i r.m) M.bad)
def slB (s : Sx) (i : Nat) (l : Lv) : Bool := cond (s.S.contains i) (l.f && !s.P.contains i && !s.Fx.contains i) l.p
def lkLoc (s : Sx) (x : Str) : Bool := s.sc.names.lookup x == some .local
def mPar (s : Sx) (x y : Str) (px py : Pos) (a b : Expr) (ra rb : Re) (full : M Fl) : M Fl := cond (lkLoc s x && lkLoc s y) (match slotGo x s.N 0, slotGo y s.N 0 with
  | some i, some j => cond (s.calm && fnB s && (py.line == px.line) && !(y == x) && !(i == j) && notStar a && notStar b && !([a, b].all (foldedForSure 8)) && !([a, b].all (constantsAlone 8)) && slB s i ra.l && slB s j rb.l) (M.par (s.S.contains i) (s.S.contains j) i j ra.m rb.m) M.bad
  | _, _ => M.bad) (cond (notStar a && notStar b) full M.bad)
def mTg (r : Re) (g : Rg) : M Fl := cond (r.l.p && g.ok) (M.asgT g.g r.m) M.bad
def ipG : Operator → Option (D → D → Option D)
  | .Add => some dIAdd
  | .Sub => some dSub
  | _ => none
def cAsg (n : Nat) (s : Sx) (tg e : Expr) : M Fl := match tg with
  | .Name x _ => match slotGo x s.N 0 with
    | some i => cond (locB s x && fnB s) (match e with
      | .ListComp _ _ _ _ => mAsg s i (cE n s e)
      | e => cond (plainSw e) (mAsg s i (cE n s e)) M.bad) M.bad
    | none => M.bad
  | .Tuple ts _ _ => match e with
    | .Tuple vs _ _ => match ts, vs with
      | [.Name x px, .Name y py], [a, b] => mPar s x y px py a b (cE n s a) (cE n s b) (mTg (cE n s e) (cG n s tg))
      | ts, _ => cond (!(ts.length == 2 || ts.length == 3)) (mTg (cE n s e) (cG n s tg)) M.bad
    | e => cond (plainSw e) (mTg (cE n s e) (cG n s tg)) M.bad
  | .Subscript o i _ => match ownSlot s o with
    | some j => cond (plainIx i && plainSw e && (cE n s e).l.p) (M.setIx j (cE n s e).m (cE n s i).m) M.bad
    | none => M.bad
  | _ => M.bad
def Oc.nox : Oc Fl → Oc Fl
  | .exc _ _ => .bad
  | o => o
def Oc.wipe1 (i : Nat) : Oc Fl → Oc Fl
  | .ok fl ρ => .ok fl (ρ.set i none)
  | o => o
/-- a clause: its class, its name's slot, its suite -/
abbrev Hd := Str × Option Nat × (Xc → M Fl)
def M.hdl (H : List (Str × List Str)) : List Hd → Xc → Ev → Oc Fl
  | [], x, ρ => .exc x ρ
  | (c, none, m) :: r, x, ρ => match isSub H x.cls c with
    | some true => (m x ρ).nox
    | some false => M.hdl H r x ρ
    | none => .bad
  | (c, some i, m) :: r, x, ρ => match isSub H x.cls c with
    | some true => cond (decide (i < ρ.length)) (((m x (ρ.set i none)).nox).wipe1 i) .bad
    | some false => M.hdl H r x ρ
    | none => .bad
def M.tryE (H : List (Str × List Str)) (b : M Fl) (hs : List Hd) : M Fl := fun ρ => match b ρ with
  | .exc x ρ' => M.hdl H hs x ρ'
  | o => o
def exSt (s : Sx) (i : Nat) : Stmt → Option (Xc → M Fl)
  | .Assign [.Name w _] e _ => match slotGo w s.N 0, exE s i e with
    | some j, some f => cond (locB s w && !s.S.contains j && !(i == j)) (some fun x => M.asg j (f x)) none
    | _, _ => none
  | .Return (some e) _ => match exE s i e with
    | some f => cond (!s.fr) (some fun x => M.ret (f x)) none
    | none => none
  | _ => none
def Sx.sut (s : Sx) : Sx := { s with calm := false, lam := false }
mutual
def cSt : Nat → Sx → Stmt → M Fl
  | 0, _, _ => M.bad
  | n + 1, s, st => match st with
    | .Pass _ => M.nx
    | .Break _ => M.pure .bk
    | .Continue _ => M.pure .ct
    | .Expr e _ => cond (isDoc e) M.nx (cond (plainSw e) ((cE n s e).m.bind fun _ => M.nx) M.bad)
    | .Return o _ => match o with
      | none => M.pure (.rt .none)
      | some e => match ownSlot s e with
        | some i => cond (!s.P.contains i) (M.ret (M.get i)) M.bad
        | none => let r := cE n s e; cond (r.l.r && (!s.fr || r.l.f)) (M.ret r.m) M.bad
    | .Assign tgs e _ => match tgs with
      | [tg] => cAsg n s tg e
      | _ => M.bad
    | .AugAssign tg op e _ => match tg with
      | .Name x _ => match slotGo x s.N 0, ipG op with
        | some i, some g => let r := cE n s e; cond (locB s x && !s.S.contains i && r.l.t) (M.aug i g r.m) M.bad
        | _, _ => M.bad
      | _ => M.bad
    | .If t a b _ => M.ife (cT n s t).m (cSs n s a) (cSs n s b)
    | .While t body oe _ => cond (oe.isEmpty && s.calm) (M.whl (cT n s t).m (cSs n s body) whileFuel) M.bad
    | .For tg iter body oe _ => let it := cI n s tg iter; let g := cG n s tg; cond (oe.isEmpty && it.ok && g.ok && notSetE iter && s.calm) (M.for it.m g.g (cSs n { s with Fx := s.Fx ++ it.js } body)) M.bad
    | .Raise o o2 _ => match o, o2 with
      | some (.Call (.Name x _) args kws _), none => cond (kws.isEmpty && okNm x && glB s x && s.calm) (match gkGo x s.G, args with
        | some .ex0, [] => M.raise ⟨x, none⟩
        | some (.ex1 fld k), [e] => let r := cE n s e; cond (r.l.p && notStar e && decide (k + 1 ≤ s.lv)) (M.raise1 x fld r.m) M.bad
        | _, _ => M.bad) M.bad
      | _, _ => M.bad
    | .Try body hs oe fb _ => let q := cH n s hs; cond (oe.isEmpty && fb.isEmpty && !hs.isEmpty && s.calm && q.1) (M.tryE s.H (cSs n s body) q.2) M.bad
    | _ => M.bad
def cSs : Nat → Sx → List Stmt → M Fl
  | 0, _, _ => M.bad
  | n + 1, s, sts => match sts with
    | [] => M.nx
    | st :: rest => M.seq (cSt n s st) (cSs n s rest)
def cSu : Nat → Sx → Nat → Xc → List Stmt → M Fl
  | 0, _, _, _, _ => M.bad
  | n + 1, s, i, x, sts => match sts with
    | [] => M.nx
    | st :: rest => match exSt s i st with
      | some f => M.seq (f x) (match x.fld with
        | none => cSu n s i x rest
        | some _ => cSs n s rest)
      | none => cSs n s (st :: rest)
def cH : Nat → Sx → List ExceptHandler → Bool × List Hd
  | 0, _, _ => (false, [])
  | n + 1, s, hs => match hs with
    | [] => (true, [])
    | .ExceptHandler ty nm body _ :: r => let q := cH n s r; match ty, nm, body with
      | some (.Name x _), none, b :: su => (okNm x && glB s x && (ancGo x s.H).isSome && q.1, (x, none, fun _ => cSs n s.sut (b :: su)) :: q.2)
      | some (.Name x _), some y, b :: su => match slotGo y s.N 0 with
        | some i => (okNm x && glB s x && (ancGo x s.H).isSome && q.1 && lkLoc s y && !s.S.contains i, (x, some i, fun xc => cSu n s.sut i xc (b :: su)) :: q.2)
        | none => (false, [])
      | _, _, _ => (false, [])
end
theorem sto_none {K : Fr} {S : Nat → Bool} {O : AS} {U : Nat → Option Addr} {σ : L2.St} {H : Hp} {ρ : Ev} {i : Nat} {v : Option V} (st : Sto K S O U σ H ρ) (hS : S i = false) : Sto K S O U (σ.set i v) H (ρ.set i none) := by
  have out : ∀ j d, (ρ.set i none)[j]? = some (some d) → i ≠ j ∧ ρ[j]? = some (some d) := fun j d e => by
    by_cases z : i = j
    · subst z
      by_cases hl : i < ρ.length
      · rw [List.getElem?_set_self hl] at e; cases e
      · rw [List.getElem?_eq_none (by rw [List.length_set]; omega)] at e; cases e
    · rw [List.getElem?_set_ne z] at e; exact ⟨z, e⟩
  refine ⟨by rw [List.length_set, List.length_set]; exact st.len, fun j d e n => ?_, fun j d e n => ?_, st.uS, st.out, st.inj, st.domO, st.domU, st.tab⟩
  · obtain ⟨z, e⟩ := out j d e
    rw [List.getElem?_set_ne z]
    exact st.dat j d e n
  · obtain ⟨z, e⟩ := out j d e
    rw [List.getElem?_set_ne z]
    exact st.own j d e n
/-- a suite that knows the exception -/
structure SuOk (X : Cx) (c : Cn) (i : Nat) (a : Addr) (cls : Value) (d : Option Addr) (x : Xc) (sts : List Stmt) (m : M Fl) : Prop where
  ex : ∃ t, PSs X sts t ∧ ∀ O U σ H ρ D, σ[i]? = some (some (.ref a)) → Sto c.K c.S O U σ H ρ → Fm c U H → ExL c O U H x cls d → SRes c O U H (m ρ) D → t D σ H
theorem SsOk.su {X : Cx} {c : Cn} {i : Nat} {a : Addr} {cls : Value} {d : Option Addr} {x : Xc} {sts : List Stmt} {m : M Fl} (h : SsOk X c sts m) : SuOk X c i a cls d x sts m := by
  obtain ⟨t, p, r⟩ := h
  exact ⟨t, p, fun O U σ H ρ D _ st fm _ hr => r O U σ H ρ D st fm hr⟩
theorem exE_plain {s : Sx} {i : Nat} {e : Expr} {f : Xc → M D} (q : exE s i e = some f) : plainSw e = true := by
  unfold exE at q
  split at q <;> first | rfl | (cases q; done)
section
variable {s : Sx} {X : Cx} {c : Cn} {i : Nat} {a : Addr} {cls : Value} {d : Option Addr} {x : Xc} {oe : Obj} {pn : List (Addr × Obj)}
/-- the statement, then what comes behind: the slot of the name stays -/
theorem exst_sound (h : CtxOk (X.suite a ((a, oe) :: pn)) c s) (hz : Zc cls d oe) (hf : ∃ vs, oe.data = .fields vs) (xh : XH c.K c.mg x cls d) {st : Stmt} {f : Xc → M Fl} (q : exSt s i st = some f) :
    ∃ t, PS (X.suite a ((a, oe) :: pn)) st t ∧ ∀ O U σ H ρ D, σ[i]? = some (some (.ref a)) → Sto c.K c.S O U σ H ρ → Fm c U H → ExL c O U H x cls d →
      (match f x ρ with
        | .ok .nx ρ' => ∀ σ' H', σ'[i]? = some (some (.ref a)) → Sto c.K c.S O U σ' H' ρ' → Keep U H H' → Fm c U H' → (x.fld = none → ExL c O U H' x cls d) → D.nx σ' H'
        | o => SRes c O U H o D) → t D σ H := by
  unfold exSt at q
  split at q
  · rename_i w pw e p
    split at q
    · rename_i j g e1 e2
      cases q1 : locB s w && !s.S.contains j && !(i == j) with
      | false => rw [q1] at q; cases q
      | true =>
        rw [q1] at q
        cases q
        simp only [Bool.and_eq_true] at q1
        obtain ⟨te, pe, re⟩ := ex_sound h hz hf xh e2
        obtain ⟨l1, l2⟩ := h.loc q1.1.1
        have hij : i ≠ j := by simpa using q1.2
        have hS : c.S j = false := by rw [h.own]; simpa using q1.1.2
        refine ⟨_, ps_set (by rw [h.N]; exact h.nd) (h.slot e1) l1 pe (sw_plain (exE_plain e2)) l2, fun O U σ H ρ D es st fm ex hr => ?_⟩
        refine re O U σ H ρ _ es st ex ?_
        have hr : (match ((g x ρ).bind fun d => (M.setD j d).bind fun _ => M.nx) with
          | .ok .nx ρ' => ∀ σ' H', σ'[i]? = some (some (.ref a)) → Sto c.K c.S O U σ' H' ρ' → Keep U H H' → Fm c U H' → (x.fld = none → ExL c O U H' x cls d) → D.nx σ' H'
          | o => SRes c O U H o D) := hr
        cases eg : g x ρ with
        | bad => rw [eg] at hr; exact hr
        | exc y ρ1 =>
          rw [eg] at hr
          exact fun cls2 dd H1 st1 k1 e3 => hr U σ H1 cls2 dd st1 k1 (Dm.of k1 st1.domU) Chg.refl e3
        | ok d0 ρ1 =>
          rw [eg] at hr
          intro v H1 st1 k1 _ rv
          have hr : ∀ σ' H', σ'[i]? = some (some (.ref a)) → Sto c.K c.S O U σ' H' (ρ1.set j (some d0)) → Keep U H H' → Fm c U H' → (x.fld = none → ExL c O U H' x cls d) → D.nx σ' H' := hr
          refine hr (σ.set j (some v)) H1 (by rw [List.getElem?_set_ne (Ne.symm hij)]; exact es) (sto_set st1 hS (rv.p rfl)) k1 (fm.next (Dm.of k1 st1.domU) Chg.refl) fun hn => ?_
          obtain ⟨C, g1, g2, g3⟩ := ex
          rw [hn] at g3
          exact ⟨C, g1, g2, by rw [hn]; exact g3⟩
    · cases q
  · rename_i e p
    split at q
    · rename_i g e2
      cases q1 : !s.fr with
      | false => rw [q1] at q; cases q
      | true =>
        rw [q1] at q
        cases q
        obtain ⟨te, pe, re⟩ := ex_sound h hz hf xh e2
        refine ⟨_, ps_ret pe, fun O U σ H ρ D es st fm ex hr => ?_⟩
        refine re O U σ H ρ _ es st ex ?_
        have hr : (match ((g x ρ).bind fun d => M.pure (Fl.rt d)) with
          | .ok .nx ρ' => ∀ σ' H', σ'[i]? = some (some (.ref a)) → Sto c.K c.S O U σ' H' ρ' → Keep U H H' → Fm c U H' → (x.fld = none → ExL c O U H' x cls d) → D.nx σ' H'
          | o => SRes c O U H o D) := hr
        cases eg : g x ρ with
        | bad => rw [eg] at hr; exact hr
        | exc y ρ1 =>
          rw [eg] at hr
          exact fun cls2 dd H1 st1 k1 e3 => hr U σ H1 cls2 dd st1 k1 (Dm.of k1 st1.domU) Chg.refl e3
        | ok d0 ρ1 =>
          rw [eg] at hr
          intro v H1 st1 k1 _ rv
          have hr : SRes c O U H (.ok (.rt d0) ρ1) D := hr
          refine hr U σ H1 st1 k1 (Dm.of k1 st1.domU) Chg.refl v ⟨(rv.p rfl).imp fun b z => .inl (av_up z), fun z => ?_⟩
          rw [h.fr] at z
          rw [z] at q1; cases q1
    · cases q
  · cases q
theorem StC.sut (h : StC X c s) : StC (X.suite a ((a, oe) :: pn)) c.nox s.sut :=
  ⟨⟨⟨h.x.F.K, h.x.F.mg⟩, takes0, (fun z => by cases z), h.x.N, h.x.nd, h.x.sc, h.x.fn, h.x.hu, (fun z => by cases z), h.x.S, h.x.P, h.x.Fx, h.x.fr, h.x.G, h.x.H, (fun z => by cases z)⟩, (fun z => by cases z), (fun z => by cases z)⟩
theorem StC.tr (h : StC X c s) {W : WX} {pn : List (Addr × Obj)} {xe : Value → Shared → Prop} (tk : L2.Takes (X.tr pn xe) W) (po : PassesOwn (model X.prog X.w) X.A X.env xe) : StC (X.tr pn xe) { c with W := W } s :=
  ⟨⟨⟨h.x.F.K, h.x.F.mg⟩, tk, h.x.hc, h.x.N, h.x.nd, h.x.sc, h.x.fn, h.x.hu, h.x.hr, h.x.S, h.x.P, h.x.Fx, h.x.fr, h.x.G, h.x.H, h.x.L⟩, fun _ => po, h.stk⟩
theorem nox_res {O : AS} {U : Nat → Option Addr} {H : Hp} {o : Oc Fl} {E : Ends} (h : SRes c O U H o.nox E) : SRes c.nox O U H o E := by
  cases o with
  | ok fl ρ' => exact h
  | exc y ρ' => exact h.elim
  | bad => exact h
theorem wipe_res {O : AS} {U : Nat → Option Addr} {H : Hp} {o : Oc Fl} {E : Ends} {i : Nat} (hS : c.S i = false) (h : SRes c O U H ((o.nox).wipe1 i) E) : SRes c.nox O U H o { nx := fun σ' H' => E.nx (σ'.set i none) H', rt := E.rt, bk := fun σ' H' => E.bk (σ'.set i none) H', ct := fun σ' H' => E.ct (σ'.set i none) H' } := by
  cases o with
  | exc y ρ' => exact h.elim
  | bad => exact h
  | ok fl ρ' =>
    intro U' σ' H' st k d ch
    have h : SRes c O U H (.ok fl (ρ'.set i none)) E := h
    have q := h U' (σ'.set i none) H' (sto_none st hS) k d ch
    cases fl with
    | nx => exact q
    | bk => exact q
    | ct => exact q
    | rt v =>
      intro u ⟨r1, r2⟩
      refine q u ⟨r1, fun hf ds e => ?_⟩
      obtain ⟨a, vs, g1, g2, g3, g4, g5⟩ := r2 hf ds e
      refine ⟨a, vs, g1, g2, g3, g4, fun j b fs uj ej => g5 j b fs uj ?_⟩
      by_cases z : i = j
      · subst z
        by_cases hl : i < ρ'.length
        · rw [List.getElem?_set_self hl] at ej; cases ej
        · rw [List.getElem?_eq_none (by rw [List.length_set]; omega)] at ej; cases ej
      · rw [List.getElem?_set_ne z] at ej; exact ej
/-- the clauses, with their readings -/
inductive HdR (X : Cx) (c : Cn) (tbl : List (Str × List Str)) : List ExceptHandler → List Hd → List (Value × Option Nat × (Addr → Value → Option Addr → TS)) → Prop
  | nil : HdR X c tbl [] [] []
  | cons {hd : ExceptHandler} {hs : List ExceptHandler} {x : Str} {m : Xc → M Fl} {ms : List Hd} {C : Addr} {ts : Addr → Value → Option Addr → TS} {l : List (Value × Option Nat × (Addr → Value → Option Addr → TS))} (hm : c.mg x = some (.ref C)) (hx : ∀ {hds l'}, HdsT X hds l' → HdsT X (hd :: hds) ((.ref C, none, ts) :: l'))
      (hr : ∀ (y : Xc) a cls d O U σ H ρ D, XH c.K c.mg y cls d → Sto c.K c.S O U σ H ρ → Fm c U H → ExL c O U H y cls d → SRes c O U H (m y ρ).nox D → ts a cls d D σ H) (r : HdR X c tbl hs ms l) : HdR X c tbl (hd :: hs) ((x, none, m) :: ms) ((.ref C, none, ts) :: l)
  | consAs {hd : ExceptHandler} {hs : List ExceptHandler} {x : Str} {i : Nat} {m : Xc → M Fl} {ms : List Hd} {C : Addr} {ts : Addr → Value → Option Addr → TS} {l : List (Value × Option Nat × (Addr → Value → Option Addr → TS))} (hS : c.S i = false) (hm : c.mg x = some (.ref C)) (hx : ∀ {hds l'}, HdsT X hds l' → HdsT X (hd :: hds) ((.ref C, some i, ts) :: l'))
      (hr : ∀ (y : Xc) a cls d O U σ H ρ D, XH c.K c.mg y cls d → σ[i]? = some (some (.ref a)) → Sto c.K c.S O U σ H ρ → Fm c U H → ExL c O U H y cls d → SRes c.nox O U H (m y ρ) D → ts a cls d D σ H) (r : HdR X c tbl hs ms l) : HdR X c tbl (hd :: hs) ((x, some i, m) :: ms) ((.ref C, some i, ts) :: l)
theorem HdR.ok {tbl : List (Str × List Str)} {hs : List ExceptHandler} {ms : List Hd} {l : List (Value × Option Nat × (Addr → Value → Option Addr → TS))} (h : HdR X c tbl hs ms l) : HdsT X hs l := by
  induction h with
  | nil => exact .nil
  | cons hm hx hr r ih => exact hx ih
  | consAs hS hm hx hr r ih => exact hx ih
theorem HdR.res {tbl : List (Str × List Str)} {hs : List ExceptHandler} {ms : List Hd} {l : List (Value × Option Nat × (Addr → Value → Option Addr → TS))} (hT : XOk c.K c.mg tbl) (h : HdR X c tbl hs ms l) {O : AS} {U : Nat → Option Addr} {σ : L2.St} {H : Hp} {ρ : Ev} {E : Ends} {y : Xc} {cls : Value} {d : Option Addr} (hK : X.K = c.K)
    (st : Sto c.K c.S O U σ H ρ) (fm : Fm c U H) (ex : ExL c O U H y cls d) (hr : SRes c O U H (M.hdl tbl ms y ρ) E) : wTry X.K c.W E l cls d σ H := by
  have xh : XH c.K c.mg y cls d := by
    obtain ⟨C, g1, g2, g3⟩ := ex
    refine ⟨C, g1, g2, fun hn => ?_⟩
    rw [hn] at g3; exact g3
  induction h with
  | nil => exact hr U σ H cls d st Keep.refl Dm.refl Chg.refl ex
  | @cons hd hs x m ms C ts l hm hx hq r ih =>
    have hr : SRes c O U H (match isSub tbl y.cls x with
      | some true => (m y ρ).nox
      | some false => M.hdl tbl ms y ρ
      | none => .bad) E := hr
    cases eb : isSub tbl y.cls x with
    | none => rw [eb] at hr; exact hr.elim
    | some b =>
      rw [eb] at hr
      obtain ⟨A, A', m1, m2, _, _, g1, _⟩ := isSub_some hT eb
      obtain ⟨A0, n1, n2, _⟩ := xh.ex
      have e1 : A = A0 := by have := m1.symm.trans n1; simpa using this
      have e2 : A' = C := by have := m2.symm.trans hm; simpa using this
      subst e1 e2
      refine ⟨b, by rw [hK, n2]; exact g1, fun hb a ha => ?_, fun hb => ?_⟩
      · subst hb
        exact hq y a cls d O U σ H ρ E xh st fm ex hr
      · subst hb
        exact ih hr
  | @consAs hd hs x i m ms C ts l hS hm hx hq r ih =>
    have hr : SRes c O U H (match isSub tbl y.cls x with
      | some true => cond (decide (i < ρ.length)) (((m y (ρ.set i none)).nox).wipe1 i) .bad
      | some false => M.hdl tbl ms y ρ
      | none => .bad) E := hr
    cases eb : isSub tbl y.cls x with
    | none => rw [eb] at hr; exact hr.elim
    | some b =>
      rw [eb] at hr
      obtain ⟨A, A', m1, m2, _, _, g1, _⟩ := isSub_some hT eb
      obtain ⟨A0, n1, n2, _⟩ := xh.ex
      have e1 : A = A0 := by have := m1.symm.trans n1; simpa using this
      have e2 : A' = C := by have := m2.symm.trans hm; simpa using this
      subst e1 e2
      refine ⟨b, by rw [hK, n2]; exact g1, fun hb a ha => ?_, fun hb => ?_⟩
      · subst hb
        have hr : SRes c O U H (cond (decide (i < ρ.length)) (((m y (ρ.set i none)).nox).wipe1 i) .bad) E := hr
        by_cases hl : i < ρ.length
        · rw [decide_eq_true hl] at hr
          exact hq y a cls d O U _ H _ _ xh (by rw [List.getElem?_set_self (by rw [st.len]; exact hl)]) (sto_none st hS) fm ex (wipe_res hS hr)
        · rw [decide_eq_false hl] at hr; exact hr.elim
      · subst hb
        exact ih hr
end
section
variable {n : Nat} {s : Sx} {X : Cx} {c : Cn} {pos : Pos}
theorem ss_never {sts : List Stmt} : SsOk X c sts M.bad := ⟨_, pss_never, fun _ _ _ _ _ _ _ _ h => h⟩
theorem st_cond {st : Stmt} {b : Bool} {m : M Fl} (h : b = true → StOk X c st m) : StOk X c st (cond b m M.bad) := by
  cases b with
  | true => exact h rfl
  | false => exact st_never
theorem Room.kk {k : Nat} {A : Around} (r : Room k A) {j : Nat} (h : j ≤ k) : Room j A := r.mono h
theorem m_asg (h : StC X c s) {i : Nat} {x : Str} {p : Pos} {e : Expr} (hi : slotGo x s.N 0 = some i) (hl : locB s x = true) (he : (cE n s e).Ok X c e) (hs : swapsWith e (some (.Name x p)) pos.line X.env = pure false) : StOk X c (.Assign [.Name x p] e pos) (mAsg s i (cE n s e)) := by
  obtain ⟨l1, l2⟩ := h.x.loc hl
  have hn : X.N.Nodup := by rw [h.x.N]; exact h.x.nd
  unfold mAsg
  cases q : s.S.contains i with
  | true =>
    refine st_cond fun hq => ?_
    simp only [Bool.and_eq_true] at hq
    exact st_setO he hq.1.1 hn (h.x.slot hi) l1 l2 (by rw [h.x.own]; exact q) (by rw [h.x.P]; simpa using hq.1.2) (by rw [h.x.Fx]; simpa using hq.2) hs
  | false => exact st_cond fun hq => st_set he hq hn (h.x.slot hi) l1 l2 (by rw [h.x.own]; exact q) hs
/-- name = [..] where the store is within the block's end -/
theorem m_asgLc (h : StC X c s) {i : Nat} {x : Str} {p cp : Pos} {elt : Expr} {gens : List Comprehension} {scope : Scope} (hi : slotGo x s.N 0 = some i) (hloc : s.sc.names.lookup x = some .local) (hs : swapsWith (.ListComp elt gens scope cp) (some (.Name x p)) pos.line X.env = pure true) :
    StOk X c (.Assign [.Name x p] (.ListComp elt gens scope cp) pos) (mAsg s i (cE n s (.ListComp elt gens scope cp))) := by
  have hn : X.N.Nodup := by rw [h.x.N]; exact h.x.nd
  have bad : ∀ {e : Expr}, StOk X c (.Assign [.Name x p] e pos) (mAsg s i no) := fun {e} => by
    have h0 : StOk X c (.Assign [.Name x p] e pos) M.bad := st_never
    unfold mAsg
    cases q : s.S.contains i with
    | true =>
      simp only [cond_true]
      cases (no.l.f && !s.P.contains i && !s.Fx.contains i) with
      | true => exact h0
      | false => exact h0
    | false =>
      simp only [cond_false]
      cases no.l.p with
      | true => exact h0
      | false => exact h0
  cases n with
  | zero => exact bad
  | succ n =>
    match gens with
    | [] => exact bad
    | ⟨tg, iter, ifs, k⟩ :: g2 :: r =>
      cases k with
      | ofNat m => cases m with
        | zero => exact bad
        | succ m => exact bad
      | negSucc m => exact bad
    | [⟨tg, iter, ifs, k⟩] =>
      have main : ∀ (hs : swapsWith (.ListComp elt [⟨tg, iter, ifs, 0⟩] scope cp) (some (.Name x p)) pos.line X.env = pure true), StOk X c (.Assign [.Name x p] (.ListComp elt [⟨tg, iter, ifs, 0⟩] scope cp) pos) (mAsg s i (cE (n + 1) s (.ListComp elt [⟨tg, iter, ifs, 0⟩] scope cp))) := fun hs => by
        have ihI := (snd n).I s tg iter X c h.x
        have ihG := fun b : Bk => (g_sound n (s.blk scope) _ _ (h.x.blk (scope := scope) b)).1 tg
        have ihT : ∀ b : Bk, TsOk (b.cx X scope) c.nox ifs (ifsOf (fun c => cT n (s.blk scope) c) ifs).q (ifsOf (fun c => cT n (s.blk scope) c) ifs).m := fun b => ts_ifs (fun e => (snd n).T (s.blk scope) e _ _ (h.x.blk b)) ifs
        have ihE : ∀ b : Bk, (cond (decide (ifs.length ≤ 1)) (cE n (s.blk scope) elt) no).Ok (b.cx X scope) c.nox elt := fun b => re_cond fun _ => (snd n).E (s.blk scope) elt _ _ (h.x.blk b)
        show StOk X c _ (mAsg s i (reLc s scope iter _ _ _ _))
        unfold reLc
        cases hq : ((cI n s tg iter).ok && (cG n (s.blk scope) tg).ok && (cond (decide (ifs.length ≤ 1)) (cE n (s.blk scope) elt) no).l.p && blkC s.N s.sc scope (ownN s.N scope.names) && (cG n (s.blk scope) tg).ts.all (fun i => ((ownN s.N scope.names).map (·.2)).contains i) && ((ownN s.N scope.names).map (·.2)).all (fun i => !s.S.contains i) && notSetE iter && s.calm) with
        | false => exact bad
        | true =>
          simp only [Bool.and_eq_true] at hq
          obtain ⟨⟨⟨⟨⟨⟨⟨q1, q2⟩, q3⟩, q4⟩, q5⟩, q6⟩, q7⟩, q8⟩ := hq
          have ok : BlkOk X.N X.env.scope scope (ownN s.N scope.names) := blkOk_by (by rw [h.x.N, h.x.sc]; exact q4)
          obtain ⟨wi, tg', tt, te, p0, p1, p2, p3, tr⟩ := lc_tr h.x.F (h.x.hc q8) hn (ihI q1) ok (fun b => ihG b q2) ihT ihE q3 q5 (by rw [h.x.S]; exact q6)
          have ps := ps_setLc (pos := cp) (spos := pos) (py := p) (h.x.hc q8) hn (h.x.slot hi) (by rw [h.x.sc]; exact hloc) hs p0 ok (fun s H C cl fp => p1 ⟨s, H, C, cl, fp⟩) (fun s H C cl fp => p2 ⟨s, H, C, cl, fp⟩) (fun s H C cl fp => p3 ⟨s, H, C, cl, fp⟩) (fsi_of q7)
          simp only [cond_true]
          unfold mAsg
          cases q : s.S.contains i with
          | true =>
            simp only [cond_true]
            refine st_cond fun hq => ?_
            simp only [Bool.and_eq_true] at hq
            exact ⟨_, ps, fun O U σ H ρ D st fm h' => tr_then0 tr st h' fun d v H1 ρ1 st1 k1 _ rv h2 => own_then (by rw [h.x.own]; exact q) (by rw [h.x.P]; simpa using hq.1.2) (by rw [h.x.Fx]; simpa using hq.2) st st1 k1 rfl rv h2⟩
          | false =>
            simp only [cond_false]
            exact st_cond fun _ => ⟨_, ps, fun O U σ H ρ D st fm h' => tr_then tr st fm h' fun d v H1 ρ1 st1 _ _ rv _ h2 => asg_then (by rw [h.x.own]; exact q) st1 (rv.p rfl) h2⟩
      cases k with
      | ofNat m => cases m with
        | zero => exact main hs
        | succ m => exact bad
      | negSucc m => exact bad
theorem m_tg (h : StC X c s) {tg e : Expr} (he : (cE n s e).Ok X c e) (hs : plainSw e = true) (hw : swappedStores [tg] e X.env = pure none) (ha : asgPlain tg = true) : StOk X c (.Assign [tg] e pos) (mTg (cE n s e) (cG n s tg)) := by
  unfold mTg
  refine st_cond fun hq => ?_
  rw [Bool.and_eq_true] at hq
  exact st_tg he hq.1 ((g_sound n s X c h.x).1 tg hq.2) (by unfold swapsWithSole; exact sw_plain hs) hw ha
theorem sl_ok (h : StC X c s) {i : Nat} {l : Lv} (q : slB s i l = true) : SlotOk c (s.S.contains i) i l := by
  unfold slB at q
  cases e : s.S.contains i with
  | true =>
    rw [e] at q
    simp only [cond_true, Bool.and_eq_true] at q
    exact ⟨(by rw [h.x.own, e]), fun _ => ⟨q.1.1, (by rw [h.x.P]; simpa using q.1.2), (by rw [h.x.Fx]; simpa using q.2)⟩, (fun z => by cases z)⟩
  | false =>
    rw [e] at q
    exact ⟨(by rw [h.x.own, e]), (fun z => by cases z), fun _ => q⟩
theorem m_par (h : StC X c s) {x y : Str} {px py pt pt2 : Pos} {kt k2 : Nat} {a b : Expr} : StOk X c (.Assign [.Tuple [.Name x px, .Name y py] kt pt] (.Tuple [a, b] k2 pt2) pos)
    (mPar s x y px py a b (cE n s a) (cE n s b) (mTg (cE n s (.Tuple [a, b] k2 pt2)) (cG n s (.Tuple [.Name x px, .Name y py] kt pt)))) := by
  have hn : X.N.Nodup := by rw [h.x.N]; exact h.x.nd
  unfold mPar
  cases q : lkLoc s x && lkLoc s y with
  | true =>
    rw [Bool.and_eq_true] at q
    simp only [cond_true]
    split
    · rename_i i j ei ej
      refine st_cond fun hq => ?_
      simp only [Bool.and_eq_true] at hq
      obtain ⟨⟨⟨⟨⟨⟨⟨⟨⟨⟨q0, q1⟩, q2⟩, q3⟩, q4⟩, q5⟩, q6⟩, q7⟩, q8⟩, q9⟩, q10⟩ := hq
      have lx : X.env.scope.names.lookup x = some .local := by rw [h.x.sc]; exact beq_iff_eq.mp q.1
      have ly : X.env.scope.names.lookup y = some .local := by rw [h.x.sc]; exact beq_iff_eq.mp q.2
      exact st_par (h.x.hc q0) ((snd n).E s a X c h.x) ((snd n).E s b X c h.x) (sl_ok h q9) (sl_ok h q10) hn (h.x.slot ei) (h.x.slot ej) (by simpa using q4) lx ly q5 q6 (sw2_some (by rw [h.x.sc]; exact fnB_1 q1) lx ly q2 (by simpa using q3) q5 q6 (Bool.not_eq_true' _ ▸ q7) (Bool.not_eq_true' _ ▸ q8))
    · exact st_never
  | false =>
    refine st_cond fun hq => ?_
    rw [Bool.and_eq_true] at hq
    refine m_tg h ((snd n).E s _ X c h.x) rfl (sw2_none ?_ hq.1 hq.2) rfl
    rw [h.x.sc]
    exact Bool.and_eq_false_iff.mp q
theorem asg_sound (h : StC X c s) {tg e : Expr} : StOk X c (.Assign [tg] e pos) (cAsg n s tg e) := by
  cases tg with
  | Name x p =>
    show StOk X c _ (match slotGo x s.N 0 with
      | some i => _
      | none => M.bad)
    cases ei : slotGo x s.N 0 with
    | none => exact st_never
    | some i =>
      refine st_cond (b := locB s x && fnB s) fun hq => ?_
      rw [Bool.and_eq_true] at hq
      cases e with
      | ListComp elt gens scope cp =>
        have e1 := sw_lc (s := s) (x := x) (p := p) (cp := cp) (elt := elt) (gs := gens) (scope := scope) (l := pos.line) h.x.sc (fnB_1 hq.2)
        cases q : swapB s x p scope cp with
        | false => exact m_asg h ei hq.1 ((snd n).E s _ X c h.x) (by rw [e1, q])
        | true =>
          have hl : s.sc.names.lookup x = some .local := by
            unfold swapB at q
            simp only [Bool.and_eq_true] at q
            have := q.1.1.2
            split at this
            · assumption
            · cases this
          exact m_asgLc h ei hl (by rw [e1, q])
      | _ => first | exact m_asg h ei hq.1 ((snd n).E s _ X c h.x) (sw_plain rfl) | exact st_never
  | Tuple ts kt pt =>
    cases e with
    | Tuple vs k2 pt2 =>
      have other : ∀ {ts : List Expr}, StOk X c (.Assign [.Tuple ts kt pt] (.Tuple vs k2 pt2) pos) (cond (!(ts.length == 2 || ts.length == 3)) (mTg (cE n s (.Tuple vs k2 pt2)) (cG n s (.Tuple ts kt pt))) M.bad) := fun {ts} =>
        st_cond fun hq => m_tg h ((snd n).E s _ X c h.x) rfl (sw_len (by simpa using hq)) rfl
      unfold cAsg
      dsimp only
      split
      · exact m_par h
      · exact other
    | _ => first | exact m_tg h ((snd n).E s _ X c h.x) rfl (sw_nt rfl) rfl | exact st_never
  | Subscript o i p =>
    show StOk X c _ (match ownSlot s o with
      | some j => _
      | none => M.bad)
    cases eo : ownSlot s o with
    | none => exact st_never
    | some j =>
      obtain ⟨x, p2, rfl, h1, h2, h3, h4, h5⟩ := own_slot h.x eo
      refine st_cond fun hq => ?_
      simp only [Bool.and_eq_true] at hq
      exact st_setix ((snd n).E s e X c h.x) ((snd n).E s i X c h.x) hq.2 h1 h2 h3 h4 h5 hq.1.1 hq.1.2
  | _ => exact st_never
theorem StC.fix (h : StC X c s) (js : List Nat) : StC X (c.fix js) { s with Fx := s.Fx ++ js } := by
  obtain ⟨⟨h1, h2, h3, h4, h5, h6, h7, h8, h9, h10, h11, h12, h13, h14, h15, h16⟩, po, stk⟩ := h
  refine ⟨⟨⟨h1.K, h1.mg⟩, h2, h3, h4, h5, h6, h7, h8, h9, h10, h11, ?_, h13, h14, h15, h16⟩, po, stk⟩
  funext i
  show (c.Fx i || js.contains i) = (s.Fx ++ js).contains i
  rw [h12]
  simp
/-- readings by what they ask -/
def tBody (c : Cn) (m : M Fl) (W : WX) : TS := fun D σ H => ∃ O U ρ, Sto c.K c.S O U σ H ρ ∧ Fm c U H ∧ SRes { c with W := W } O U H (m ρ) D
def tHd (c : Cn) (m : Xc → M Fl) (_ : Addr) (cls : Value) (d : Option Addr) : TS := fun D σ H => ∃ y O U ρ, XH c.K c.mg y cls d ∧ Sto c.K c.S O U σ H ρ ∧ Fm c U H ∧ ExL c O U H y cls d ∧ SRes c O U H (m y ρ).nox D
def tHdA (c : Cn) (i : Nat) (m : Xc → M Fl) (a : Addr) (cls : Value) (d : Option Addr) : TS := fun D σ H => ∃ y O U ρ, XH c.K c.mg y cls d ∧ σ[i]? = some (some (.ref a)) ∧ Sto c.K c.S O U σ H ρ ∧ Fm c U H ∧ ExL c O U H y cls d ∧ SRes c.nox O U H (m y ρ) D
theorem su_cons {i : Nat} {a : Addr} {cls : Value} {d : Option Addr} {x : Xc} {oe : Obj} {pn : List (Addr × Obj)} (h : CtxOk (X.suite a ((a, oe) :: pn)) c s) (hz : Zc cls d oe) (hf : ∃ vs, oe.data = .fields vs) (xh : XH c.K c.mg x cls d) {st : Stmt} {rest : List Stmt} {f : Xc → M Fl} {g : M Fl} (q : exSt s i st = some f)
    (h1 : x.fld = none → SuOk (X.suite a ((a, oe) :: pn)) c i a cls d x rest g) (h2 : x.fld ≠ none → SsOk (X.suite a ((a, oe) :: pn)) c rest g) : SuOk (X.suite a ((a, oe) :: pn)) c i a cls d x (st :: rest) (M.seq (f x) g) := by
  obtain ⟨t1, p1, r1⟩ := exst_sound h hz hf xh q
  have rst : ∃ t2, PSs (X.suite a ((a, oe) :: pn)) rest t2 ∧ ∀ O U σ H ρ D, σ[i]? = some (some (.ref a)) → Sto c.K c.S O U σ H ρ → Fm c U H → (x.fld = none → ExL c O U H x cls d) → SRes c O U H (g ρ) D → t2 D σ H := by
    by_cases hn : x.fld = none
    · obtain ⟨t2, p2, r2⟩ := h1 hn
      exact ⟨t2, p2, fun O U σ H ρ D es st fm ex hr => r2 O U σ H ρ D es st fm (ex hn) hr⟩
    · obtain ⟨t2, p2, r2⟩ := h2 hn
      exact ⟨t2, p2, fun O U σ H ρ D _ st fm _ hr => r2 O U σ H ρ D st fm hr⟩
  obtain ⟨t2, p2, r2⟩ := rst
  refine ⟨_, pss_cons p1 p2, fun O U σ H ρ D es st fm ex hr => ?_⟩
  refine r1 O U σ H ρ { D with nx := t2 D } es st fm ex ?_
  have hr : SRes c O U H ((f x ρ).bind fun fl => match fl with
    | .nx => g
    | f => M.pure f) D := hr
  cases e : f x ρ with
  | bad => rw [e] at hr; exact hr
  | exc y ρ1 => rw [e] at hr; exact hr
  | ok fl ρ1 =>
    rw [e] at hr
    cases fl with
    | nx => exact fun σ' H' es' st' k' fm' ex' => r2 O U σ' H' ρ1 D es' st' fm' ex' (SRes.at k' (Dm.of k' st'.domU) Chg.refl hr)
    | bk => exact hr
    | ct => exact hr
    | rt v => exact hr
theorem tr_res {O : AS} {U : Nat → Option Addr} {H : Hp} {b : M Fl} {ms : List Hd} {E : Ends} {ρ : Ev} {hs : List ExceptHandler} {l : List (Value × Option Nat × (Addr → Value → Option Addr → TS))} (h : StC X c s) (fm : Fm c U H) (hd : HdR X c s.H hs ms l) (hr : SRes c O U H (M.tryE s.H b ms ρ) E) : SRes { c with W := wTry X.K c.W E l } O U H (b ρ) E := by
  unfold M.tryE at hr
  cases e : b ρ with
  | bad => rw [e] at hr; exact hr
  | ok fl ρ1 => rw [e] at hr; exact hr
  | exc y ρ1 =>
    rw [e] at hr
    have hH : XOk c.K c.mg s.H := by
      have := h.x.H
      rw [h.x.F.K, h.x.F.mg] at this
      exact this
    exact fun U' σ' H' cls dd st k d ch ex => hd.res hH h.x.F.K st (fm.next d ch) ex (SRes.at k d ch hr)
theorem st_sound : ∀ (n : Nat), (∀ s st X c, StC X c s → StOk X c st (cSt n s st)) ∧ (∀ s sts X c, StC X c s → SsOk X c sts (cSs n s sts)) ∧
      (∀ s sts (X : Cx) (c : Cn) i a cls d x oe pn, StC (X.suite a ((a, oe) :: pn)) c s → Zc cls d oe → (∃ vs, oe.data = .fields vs) → XH c.K c.mg x cls d → SuOk (X.suite a ((a, oe) :: pn)) c i a cls d x sts (cSu n s i x sts)) ∧
      (∀ s hs (X : Cx) (c : Cn), StC X c s → (cH n s hs).1 = true → ∃ l, HdR X c s.H hs (cH n s hs).2 l)
  | 0 => ⟨fun _ _ _ _ _ => st_never, fun _ _ _ _ _ => ss_never, fun _ _ _ _ _ _ _ _ _ _ _ _ _ _ _ => ss_never.su, fun _ _ _ _ _ q => by cases q⟩
  | n + 1 => by
    obtain ⟨ih1, ih2, ih3, ih4⟩ := st_sound n
    refine ⟨fun s st X c h => ?_, fun s sts X c h => ?_, fun s sts X c i a cls d x oe pn h hz hf xh => ?_, fun s hs X c h q => ?_⟩
    rotate_left 2
    · cases sts with
      | nil => exact ss_nil.su
      | cons st rest =>
        show SuOk _ c i a cls d x (st :: rest) (match exSt s i st with
          | some f => M.seq (f x) (match x.fld with
            | none => cSu n s i x rest
            | some _ => cSs n s rest)
          | none => cSs n s (st :: rest))
        cases q : exSt s i st with
        | none => exact (ih2 s (st :: rest) _ c h).su
        | some f =>
          refine su_cons h.x hz hf xh q (fun hn => ?_) (fun hn => ?_)
          · rw [hn]; exact ih3 s rest X c i a cls d x oe pn h hz hf xh
          · cases e : x.fld with
            | none => exact absurd e hn
            | some _ => exact ih2 s rest _ c h
    · cases hs with
      | nil => exact ⟨_, .nil⟩
      | cons hd r =>
        obtain ⟨ty, nm, body, hp⟩ := hd
        have clsOf : ∀ {x : Str}, (ancGo x s.H).isSome = true → ∃ C, X.mg x = some (.ref C) ∧ c.mg x = some (.ref C) := fun {x} q => by
          obtain ⟨anc, ha⟩ := Option.isSome_iff_exists.mp q
          obtain ⟨C, m1, _⟩ := h.x.H.at_ _ (ancGo_some ha)
          exact ⟨C, m1, by rw [← h.x.F.mg]; exact m1⟩
        match ty, nm, body, q with
        | some (.Name x np), none, b :: su, q =>
          have q : (okNm x && glB s x && (ancGo x s.H).isSome && (cH n s r).1) = true := q
          simp only [Bool.and_eq_true] at q
          obtain ⟨C, m1, m2⟩ := clsOf q.1.2
          obtain ⟨l, hl⟩ := ih4 s r X c h q.2
          refine ⟨(.ref C, none, tHd c fun _ => cSs n s.sut (b :: su)) :: l, .cons m2 (fun r2 => .cons ⟨h.x.gl q.1.1.2, (okNm_1 q.1.1.1).1, .inl m1⟩ (fun a oe cls d pn hz hf => ?_) r2) (fun y a cls d O U σ H ρ D xh st fm ex hr => ⟨y, O, U, ρ, xh, st, fm, ex, hr⟩) hl⟩
          obtain ⟨t, p, rd⟩ := ih2 s.sut (b :: su) _ c.nox (h.sut (a := a) (oe := oe) (pn := pn))
          exact ⟨fun pins s0 σ H D I hh => by
            obtain ⟨y, O, U, ρ, xh, st, fm, ex, hr⟩ := hh
            exact p.run pins s0 σ H D I (rd O U σ H ρ D st ⟨fm.z, fm.u⟩ (nox_res hr))⟩
        | some (.Name x np), some y, b :: su, q =>
          have q : (match slotGo y s.N 0 with
            | some i => (okNm x && glB s x && (ancGo x s.H).isSome && (cH n s r).1 && lkLoc s y && !s.S.contains i, (x, some i, fun xc => cSu n s.sut i xc (b :: su)) :: (cH n s r).2)
            | none => (false, [])).1 = true := q
          show ∃ l, HdR X c s.H _ (match slotGo y s.N 0 with
            | some i => (okNm x && glB s x && (ancGo x s.H).isSome && (cH n s r).1 && lkLoc s y && !s.S.contains i, (x, some i, fun xc => cSu n s.sut i xc (b :: su)) :: (cH n s r).2)
            | none => (false, ([] : List Hd))).2 l
          cases ei : slotGo y s.N 0 with
          | none => rw [ei] at q; cases q
          | some i =>
            rw [ei] at q
            have q : (okNm x && glB s x && (ancGo x s.H).isSome && (cH n s r).1 && lkLoc s y && !s.S.contains i) = true := q
            simp only [Bool.and_eq_true] at q
            obtain ⟨⟨⟨⟨⟨q1, q2⟩, q3⟩, q4⟩, q5⟩, q6⟩ := q
            obtain ⟨C, m1, m2⟩ := clsOf q3
            obtain ⟨l, hl⟩ := ih4 s r X c h q4
            refine ⟨(.ref C, some i, tHdA c i fun xc => cSu n s.sut i xc (b :: su)) :: l, .consAs (by rw [h.x.own]; simpa using q6) m2 (fun r2 => .consAs (h.x.slot ei) (by show X.env.scope.names.lookup y = _; rw [h.x.sc]; exact beq_iff_eq.mp q5) ⟨h.x.gl q2, (okNm_1 q1).1, .inl m1⟩ (fun a oe cls d pn hz hf => ?_) r2) (fun y a cls d O U σ H ρ D xh es st fm ex hr => ⟨y, O, U, ρ, xh, es, st, fm, ex, hr⟩) hl⟩
            exact ⟨fun pins s0 σ H D I hh => by
              obtain ⟨y, O, U, ρ, xh, es, st, fm, ex, hr⟩ := hh
              obtain ⟨t, p, rd⟩ := ih3 s.sut (b :: su) X c.nox i a cls d y oe pn (h.sut (a := a) (oe := oe) (pn := pn)) hz hf xh
              exact p.run pins s0 σ H D I (rd O U σ H ρ D es st ⟨fm.z, fm.u⟩ ex hr)⟩
    · cases st with
      | Pass p => exact st_pass
      | Break p => exact st_break
      | Continue p => exact st_cont
      | Expr e p =>
        show StOk X c _ (cond (isDoc e) M.nx _)
        cases q : isDoc e with
        | true =>
          cases e with
          | Constant k j p2 => cases k with
            | str x => exact st_doc
            | _ => cases q
          | _ => cases q
        | false => exact st_cond fun hp => st_expr ((snd n).E s e X c h.x) hp
      | Return o p =>
        cases o with
        | none => exact st_retN
        | some e =>
          show StOk X c _ (match ownSlot s e with
            | some i => cond (!s.P.contains i) (M.ret (M.get i)) M.bad
            | none => cond ((cE n s e).l.r && (!s.fr || (cE n s e).l.f)) (M.ret (cE n s e).m) M.bad)
          cases eo : ownSlot s e with
          | some i =>
            obtain ⟨x, p2, rfl, h1, h2, h3, h4, h5⟩ := own_slot h.x eo
            exact st_cond fun hq => st_retO h1 h2 h3 h4 h5 (by rw [h.x.P]; simpa using hq)
          | none =>
            refine st_cond fun hq => ?_
            rw [Bool.and_eq_true] at hq
            exact st_ret ((snd n).E s e X c h.x) hq.1 (by rw [h.x.fr]; exact hq.2)
      | Assign tgs e p =>
        match tgs with
        | [] => exact st_never
        | [tg] => exact asg_sound h
        | _ :: _ :: _ => exact st_never
      | AugAssign tg op e p =>
        cases tg with
        | Name x p2 =>
          show StOk X c _ (match slotGo x s.N 0, ipG op with
            | some i, some g => cond (locB s x && !s.S.contains i && (cE n s e).l.t) (M.aug i g (cE n s e).m) M.bad
            | _, _ => M.bad)
          split
          · rename_i i g ei eg
            refine st_cond fun hq => ?_
            simp only [Bool.and_eq_true] at hq
            obtain ⟨l1, l2⟩ := h.x.loc hq.1.1
            have hip : IpR X c op g := by
              cases op <;> simp only [ipG, Option.some.injEq, reduceCtorEq] at eg <;> subst eg
              · exact ip_add
              · exact ip_sub
            exact st_aug hip ((snd n).E s e X c h.x) hq.2 (by rw [h.x.N]; exact h.x.nd) (h.x.slot ei) l1 l2 (by rw [h.x.own]; simpa using hq.1.2)
          · exact st_never
        | _ => exact st_never
      | If t a b p => exact st_if ((snd n).T s t X c h.x) (ih2 s a X c h) (ih2 s b X c h)
      | While t body oe p =>
        refine st_cond (b := oe.isEmpty && s.calm) fun hq => ?_
        rw [Bool.and_eq_true] at hq
        have : oe = [] := by simpa using hq.1
        subst this
        exact st_while whileFuel (h.po hq.2) ((snd n).T s t X c h.x) (ih2 s body X c h)
      | For tg iter body oe p =>
        refine st_cond (b := oe.isEmpty && (cI n s tg iter).ok && (cG n s tg).ok && notSetE iter && s.calm) fun hq => ?_
        simp only [Bool.and_eq_true] at hq
        have : oe = [] := by simpa using hq.1.1.1.1
        subst this
        exact st_for (h.po hq.2) (h.x.hc hq.2) ((snd n).I s tg iter X c h.x hq.1.1.1.2) ((g_sound n s X c h.x).1 tg hq.1.1.2) (ih2 _ body X _ (h.fix _)) (fsi_of hq.1.2)
      | Raise o o2 p =>
        cases o2 with
        | some _ => cases o with
          | none => exact st_never
          | some e => cases e with
            | Call f args kws p2 => cases f <;> exact st_never
            | _ => exact st_never
        | none =>
          cases o with
          | none => exact st_never
          | some e =>
            cases e with
            | Call f args kws p2 =>
              cases f with
              | Name x p3 =>
                refine st_cond (b := kws.isEmpty && okNm x && glB s x && s.calm) fun hq => ?_
                rw [Bool.and_eq_true] at hq
                obtain ⟨hq, hcm⟩ := hq
                simp only [Bool.and_eq_true] at hq
                have : kws = [] := by simpa using hq.1.1
                subst this
                have hd := (okNm_1 hq.1.2).1
                split
                · rename_i e1 _
                  obtain ⟨C, bmB, B, newId, initId, g1, g2, g3, g4, g5, g6⟩ := h.x.G.k _ (gkGo_some (by assumption))
                  exact st_raise0 h.x.F (h.x.hc hcm) h.x.tk ⟨C, bmB, B, newId, initId, g1, g2, g3, g4, raises_own g5 g6⟩ (h.x.gl hq.2) hd
                · rename_i fld k e eg
                  obtain ⟨C, fI, fd, ps, g1, g2, g3, g4, g5, g6, g7⟩ := h.x.G.k _ (gkGo_some eg)
                  refine st_cond fun hr => ?_
                  simp only [Bool.and_eq_true] at hr
                  exact st_raise1 h.x.F (h.x.hc hcm) h.x.tk ⟨C, fI, fd, ps, g1, g2, g3, g4, g5, g6, g7⟩ ((snd n).E s e X c h.x) hr.1.1 ((h.x.hr hcm).mono (of_decide_eq_true hr.2)) (h.x.gl hq.2) hd hr.1.2
                · exact st_never
              | _ => exact st_never
            | _ => exact st_never
      | Try body hs oe fb p =>
        refine st_cond (b := oe.isEmpty && fb.isEmpty && !hs.isEmpty && s.calm && (cH n s hs).1) fun hq => ?_
        simp only [Bool.and_eq_true] at hq
        obtain ⟨⟨⟨⟨q1, q2⟩, q3⟩, q4⟩, q5⟩ := hq
        have e1 : oe = [] := by simpa using q1
        have e2 : fb = [] := by simpa using q2
        subst e1 e2
        obtain ⟨l, hl⟩ := ih4 s hs X c h q5
        cases hs with
        | nil => cases q3
        | cons h0 hds =>
          obtain ⟨k1, k2⟩ := h.stk q4
          refine ⟨_, ps_try_t k1 k2 (by rw [h.x.N]; exact h.x.nd) h.x.tk (tb := tBody c (cSs n s body)) (fun W pn xe tk po => ?_) hl.ok, fun O U σ H ρ D st fm hr => ⟨O, U, ρ, st, fm, tr_res h fm hl hr⟩⟩
          obtain ⟨t, pp, rd⟩ := ih2 s body _ _ (h.tr tk po)
          exact ⟨fun pins s0 σ H D I hh => by
            obtain ⟨O, U, ρ, st, fm, hr⟩ := hh
            exact pp.run pins s0 σ H D I (rd O U σ H ρ D st ⟨fm.z, fm.u⟩ hr)⟩
      | _ => exact st_never
    · cases sts with
      | nil => exact ss_nil
      | cons st rest => exact ss_cons (ih1 s st X c h) (ih2 s rest X c h)
end
end Cr
end
section
set_option Elab.async false
set_option linter.all false
set_option maxRecDepth 100000
set_option maxHeartbeats 4000000
namespace Cr
open PySem PySem.Spec L2
set_option autoImplicit false
section
variable {P : Program} {w : World} {K : Fr} {mg : Str → Option Value} {base : Heap}
def sOk (S ios : List Nat) (n : Nat) : Bool := (List.range n).all (fun i => S.contains i == ios.contains i) && ios.all fun i => decide (i < n)
/-- a def: what its text is worth -/
theorem def_sound {x qual : Str} {params : Arguments} {body : List Stmt} {scope : Scope} {f : Addr} {fd : FuncData} {N ps : List Str} {k : Nat} {ios S : List Nat} {fr : Bool} {H : List (Str × List Str)} {G : List (Str × Gk)} (fuel : Nat) (F : FunD K x qual params body scope [] [] f fd) (Sc : FnScope N ps scope) (hG : GOk P w K mg base G) (hX : XOk K mg H) (hS : sOk S ios ps.length = true)
    (lam : Bool) (hL : lam = true → ∃ cc T, LamX.TabB base mg cc T ∧ fd.code = .ref cc ∧ (T, qual ++ (".<locals>." : Str) ++ "<lambda>") ∈ TK K ∧ ∀ p ∈ TK K, p.1 = T → p.2 = qual ++ (".<locals>." : Str) ++ "<lambda>") :
    FnOk P w K mg base (L2.CX P w) (k + 1) f fd ps (spOf K mg (fun i => ios.contains i) fr (runD N.length ps.length ios (cSs fuel ⟨N, scope, true, S, ios, [], fr, k, true, H, G, lam⟩ body))) := by
  unfold sOk at hS
  rw [Bool.and_eq_true] at hS
  refine def_ok (S := fun i => S.contains i) F Sc (fun i hi => ?_) (fun i hi => ?_) fun cdv A outer s H0 E hcd hr => ?_
  · exact beq_iff_eq.mp (List.all_eq_true.mp hS.1 i (List.mem_range.mpr hi))
  · exact of_decide_eq_true (List.all_eq_true.mp hS.2 i hi)
  · refine (st_sound fuel).2.1 _ body _ _ ⟨⟨⟨rfl, rfl⟩, takes_of rfl rfl rfl rfl, fun _ => rfl, rfl, Sc.nd, rfl, fun _ _ => rfl, ?_, fun _ => hr, rfl, rfl, ?_, rfl, hG, hX, fun z => ?_⟩, fun _ => passes_of rfl, fun _ => ⟨rfl, rfl⟩⟩
    · have := hr.un
      show (A.deeper _).units + 65 < cLine
      omega
    · funext i; rfl
    · obtain ⟨cc, T, h1, h2, h3, h4⟩ := hL z
      exact ⟨cc, T, h1, hcd.symm.trans h2, h3, h4⟩
theorem GOk.add {G : List (Str × Gk)} (h : GOk P w K mg base G) {x : Str} {k : Gk} (hk : GkOk P w K mg base x k) : GOk P w K mg base ((x, k) :: G) :=
  ⟨fun p hp => by
    rcases List.mem_cons.mp hp with rfl | hp
    · exact hk
    · exact h.k p hp, h.b⟩
theorem GOk.nil (h : ∀ x ∈ bltL, mg x = none) : GOk P w K mg base [] := ⟨(fun p hp => by cases hp), h⟩
end
end Cr
end
section
set_option Elab.async false
set_option linter.all false
set_option maxRecDepth 100000
set_option maxHeartbeats 4000000
namespace Cr
open PySem PySem.Spec L2 LamX
set_option autoImplicit false
/-! ### a def that calls what it got: word = w; try: call() except ..: ..; return word -/
theorem takes_len {X : Cx} {W : WX} (t : L2.Takes X W) : L2.Takes X (fun cls d σ H => σ.length = X.N.length → W cls d σ H) := fun u s' ⟨a, B, sI, pins, σ, H, cls, d, e, I, nb, up, sky, na, os, ag, w⟩ =>
  t u s' ⟨a, B, sI, pins, σ, H, cls, d, e, I, nb, up, sky, na, os, ag, w I.len⟩
/-- the callee's frame -/
abbrev c2 (K : Fr) (mg : Str → Option Value) : Cn := ⟨K, mg, fun _ => false, fun _ => false, fun _ _ _ _ => False, fun _ => none, false, fun _ => false⟩
def wEnd (j : Nat) (Q : VK) : Ends := { nx := fun σ H => ∃ v, σ[j]? = some (some v) ∧ Q v H, rt := Q }
def eSem (K : Fr) (mg : Str → Option Value) (n j : Nat) (tbl : List (Str × List Str)) (ms : List Hd) (Q : VK) : XK := fun cls d H => ∃ (O : AS) (x : Xc), (∀ σ : L2.St, σ.length = n → Sto K (fun _ => false) O (fun _ => none) σ H (List.replicate n none)) ∧ ExL (c2 K mg) O (fun _ => none) H x cls d ∧
  SRes (c2 K mg) O (fun _ => none) H (M.hdl tbl ms x (List.replicate n none)) (wEnd j Q)
def ttW (K : Fr) (mg : Str → Option Value) (n j : Nat) (tbl : List (Str × List Str)) (ms : List Hd) (w : Str) : (XK → Hp → VK → Prop) → Hp → VK → Prop := fun tl H Q => tl (eSem K mg n j tbl ms Q) H fun _ H' => Q (.str w) H'
theorem word_gives {X : Cx} {Ng : List Str} {x a wn q w : Str} {sg : Scope} {g : Addr} {cdg : Value} {j k fuel : Nat} {hs : List ExceptHandler} {Ht : List (Str × List Str)} {Gt : List (Str × Gk)} {p1 p2 p3 p4 p5 p6 p7 p8 p9 : Pos} (Sc : FnScope Ng [a] sg) (hj : Ng[j]? = some wn) (hj0 : 0 < j) (hwl : sg.names.lookup wn = some .local) (hdw : okNm wn = true)
    (hG : GOk X.prog X.w X.K X.mg X.base Gt) (hX : XOk X.K X.mg Ht) (hu : ∀ s : Shared, (X.A.deeper (PyProof.Rows.envOfC x sg s.heap.objs.size g cdg)).units + 65 < cLine) (hne : hs.isEmpty = false) (hq : (cH fuel ⟨Ng, sg, true, [], [], [], false, 0, false, Ht, Gt, false⟩ hs).1 = true) :
    GivesTo X Ng x sg g cdg [.Assign [.Name wn p1] (.Constant (.str w) k p2) p3, .Try [.Expr (.Call (.Name a p4) [] [] p5) p6] hs [] [] p7, .Return (some (.Name wn p8)) p9] a q (ttW X.K X.mg Ng.length j Ht (cH fuel ⟨Ng, sg, true, [], [], [], false, 0, false, Ht, Gt, false⟩ hs).2 w) := by
  intro f c' s H Q tl act hc h
  have sc : StC (cxOf C8.CX0 X.prog X.w X.K X.mg X.base Ng x sg g cdg X.A X.stack s H C8.E0).nox (c2 X.K X.mg) ⟨Ng, sg, true, [], [], [], false, 0, false, Ht, Gt, false⟩ :=
    ⟨⟨⟨rfl, rfl⟩, L2.takes0, (fun z => by cases z), rfl, Sc.nd, rfl, fun _ _ => rfl, hu s, (fun z => by cases z), by funext i; rfl, by funext i; rfl, by funext i; rfl, rfl, hG, hX, (fun z => by cases z)⟩, (fun z => by cases z), (fun z => by cases z)⟩
  obtain ⟨l, hl⟩ := (st_sound fuel).2.2.2 _ hs _ _ sc hq
  cases hs with
  | nil => cases hne
  | cons h0 hds =>
    have vis : Vis sg wn := .inl hwl
    have fin := okNm_1 hdw
    refine ⟨_, pss_cons (ps_set (i := j) Sc.nd hj (.inl hwl) pe_str rfl (.inr hwl)) (pss_cons (ps_try_t (X := (cxOf C8.CX0 X.prog X.w X.K X.mg X.base Ng x sg g cdg X.A X.stack s H C8.E0).nox) (Wout := fun _ _ _ _ => False)
      (tb := fun W D σ H => ∃ Ech : XK, (∀ cls d σ' H', Ech cls d H' → σ'.length = Ng.length → W cls d σ' H') ∧ σ[0]? = some (some (.ref f)) ∧ H c' = some (CodeO c' q) ∧ tl Ech H fun _ H' => D.nx σ H')
      rfl rfl Sc.nd L2.takes0 (fun W pn xe tk _ => ?_) hl.ok) (pss_one (ps_ret (pe_var hj vis fin.1 fin.2)))), ?_⟩
    · refine ⟨fun pins s' σ H' D I h' => ?_⟩
      obtain ⟨Ech, hW, h1, h2, h3⟩ := h'
      have hp := act _ pn xe Ech p4 p5 (takes_len tk) (fun cls d σ' H' e => hW cls d σ' H' e)
      exact (pss_one (ps_expr (pos := p6) hp)).run pins s' σ H' D I ⟨h1, h2, h3⟩
    · refine ⟨eSem X.K X.mg Ng.length j Ht (cH fuel ⟨Ng, sg, true, [], [], [], false, 0, false, Ht, Gt, false⟩ (h0 :: hds)).2 Q, fun cls d σ' H' ⟨O, y, st, ex, hr⟩ hlen => ?_, ?_, hc, ?_⟩
      · exact hl.res hX rfl (st σ' hlen) ⟨fun b z => absurd z (by rintro ⟨o, e, _⟩; cases e), fun i b _ e => by cases e⟩ ex hr
      · rw [List.getElem?_set_ne (by omega)]
        have : (L2.start Ng [V.ref f])[0]? = some (some (V.ref f)) := rfl
        exact this
      · have hjl : j < (L2.start Ng [V.ref f]).length := by
          have := (List.getElem?_eq_some_iff.mp hj).1
          unfold L2.start
          simp
          omega
        have e : (fun (_ : V) (H' : Hp) => Q (.str w) H') = fun (_ : V) (H' : Hp) => ∃ v, ((L2.start Ng [V.ref f]).set j (some (.str w)))[j]? = some (some v) ∧ Q v H' := by
          funext _ H'
          refine propext ⟨fun z => ⟨_, List.getElem?_set_self hjl, z⟩, fun ⟨v, z1, z2⟩ => ?_⟩
          rw [List.getElem?_set_self hjl] at z1
          cases z1
          exact z2
        unfold ttW at h
        rw [e] at h
        exact h
/-- the clauses' answer -/
def hdW (n j : Nat) (tbl : List (Str × List Str)) (ms : List Hd) (x : Xc) : Option D := match M.hdl tbl ms x (List.replicate n none) with
  | .ok .nx ρ => (match ρ[j]? with
    | some (some d) => some d
    | _ => none)
  | _ => none
theorem tr_lam {c : Cn} {l : Lv} {q : Bool} {m : M D} {n j : Nat} {w : Str} {tbl : List (Str × List Str)} {ms : List Hd} {O : AS} {U : Nat → Option Addr} {σ : L2.St} {H : Hp} {ρ : Ev} {Q : VK} (st : Sto c.K c.S O U σ H ρ)
    (h : Res c (RpL c.K c.P .pur) O U σ H false (M.lamW w (hdW n j tbl ms) m ρ) Q) : ttW c.K c.mg n j tbl ms w (fun E H' Q' => tLb c l q m E σ H' Q') H Q := by
  refine ⟨O, U, ρ, st, ?_⟩
  unfold M.lamW at h
  cases e : m ρ with
  | bad => rw [e] at h; exact h
  | ok d ρ1 =>
    rw [e] at h
    intro v H1 st1 k1 _ _
    exact h _ H1 st1 k1 nofun (rpl_scal (.str w) nofun)
  | exc x ρ1 =>
    rw [e] at h
    intro cls dd H1 st1 k1 ex
    refine ⟨Av O U, x, fun σ' hl => ⟨by rw [List.length_replicate]; exact hl, fun i d e => ?_, fun i d e => ?_, nofun, nofun, nofun, fun b z => ?_, nofun, st1.tab⟩, ?_, ?_⟩
    · rw [List.getElem?_replicate] at e; split at e <;> cases e
    · rw [List.getElem?_replicate] at e; split at e <;> cases e
    · rcases z with z | ⟨i, z⟩
      · exact st1.domO b z
      · exact st1.domU i b z
    · obtain ⟨C, g1, g2, g3⟩ := ex
      refine ⟨C, g1, g2, ?_⟩
      cases ef : x.fld with
      | none => rw [ef] at g3; exact g3
      | some fd =>
        rw [ef] at g3
        obtain ⟨a, v, k1, k2, k3⟩ := g3
        exact ⟨a, v, k1, k2, k3.imp fun b z => .inl (z.elim id fun ⟨i, z⟩ => nomatch z)⟩
    · cases eh : hdW n j tbl ms x with
      | none => simp only [eh] at h; exact h.elim
      | some d =>
        simp only [eh] at h
        unfold hdW at eh
        split at eh
        · rename_i ρ2 e2
          split at eh
          · rename_i d' e3
            cases eh
            rw [e2]
            intro U' σ' H' st' k' dm ch
            obtain ⟨v, e4, r⟩ := st'.dat j d e3 rfl
            have sm : Same H1 H' := fun b o e t => k' b o e t (.inl nofun)
            refine ⟨v, e4, h v H' (st1.sameT sm st'.tab) (k1.trans (Keep.of_same sm)) nofun (rpl_pur (r.imp fun b z => .inl (.inl z)))⟩
          · cases eh
        · cases eh
/-- such a def is one -/
theorem lamw_ok {P : Program} {w : World} {K : Fr} {mg : Str → Option Value} {base : Heap} {Ng : List Str} {x a wn wd : Str} {pg : Arguments} {sg : Scope} {g : Addr} {fd : FuncData} {j k fuel : Nat} {hs : List ExceptHandler} {Ht : List (Str × List Str)} {Gt : List (Str × Gk)} {p1 p2 p3 p4 p5 p6 p7 p8 p9 : Pos}
    (F : FunD K x x pg [.Assign [.Name wn p1] (.Constant (.str wd) k p2) p3, .Try [.Expr (.Call (.Name a p4) [] [] p5) p6] hs [] [] p7, .Return (some (.Name wn p8)) p9] sg [] [] g fd) (hm : mg x = some (.ref g)) (hb : L2.Binds K fd [a] []) (Sg : FnScope Ng [a] sg) (hva : Vis sg a)
    (hd : (a == ("__debug__" : Str)) = false) (hcd : (a == ("__classdict__" : Str)) = false) (hj : Ng[j]? = some wn) (hj0 : 0 < j) (hwl : sg.names.lookup wn = some .local) (hdw : okNm wn = true) (hG : GOk P w K mg base Gt) (hX : XOk K mg Ht) (hne : hs.isEmpty = false)
    (hq : (cH fuel ⟨Ng, sg, true, [], [], [], false, 0, false, Ht, Gt, false⟩ hs).1 = true) :
    LamwOk P w K mg base x wd (hdW Ng.length j Ht (cH fuel ⟨Ng, sg, true, [], [], [], false, 0, false, Ht, Gt, false⟩ hs).2) := by
  have hN0 : Ng[0]? = some a := by
    have e := Sg.pre
    have e2 := congrArg (fun l => l[0]?) e
    simp only [List.length_cons, List.length_nil] at e2
    rw [List.getElem?_take_of_lt (by omega)] at e2
    exact e2
  obtain ⟨oc, od, dV, kV, doc, pm, an, cdv, ct, osl, rfl, lk, hcd2, _, _⟩ := F.ex
  refine ⟨g, _, _, sg, dV, kV, doc, pm, cdv, ct, oc, an, od, osl, Ng, a, hm, F.kp, lk, hcd2, hb, Sg, hN0, hva, hd, hcd, fun X e1 e2 e3 e4 e5 uw => ?_⟩
  subst e1 e2 e3 e4 e5
  refine ⟨ttW X.K X.mg Ng.length j Ht _ wd, fun q => word_gives (fuel := fuel) Sg hj hj0 hwl hdw hG hX uw hne hq, fun c l q m O U σ H ρ Q k1 k2 st hr => ?_⟩
  rw [← k1, ← k2]
  exact tr_lam st hr
end Cr
end
section
set_option Elab.async false
set_option linter.all false
set_option maxRecDepth 100000
set_option maxHeartbeats 4000000
namespace Cr
open PySem PySem.Spec L2 LamX
set_option autoImplicit false
/-! ### the head's facts, the end -/
def eqOV (a b : Option Value) : Bool := decide (a = b)
def eqOB (a b : Option Bool) : Bool := decide (a = b)
def excCB (K : Fr) (A : Addr) : Bool := He.eqO (PySem.W.findIn K (.ref A) "__getattribute__") (some (some (.builtin "BaseException.__getattribute__"))) && (He.eqO (PySem.W.findIn K (.ref A) "__getattr__") (some none) && (eqOB (PySem.W.subIn K (.ref A) (.type "BaseException")) (some true) && (PySem.W.hasDictIn K A &&
  (He.eqO (PySem.W.findIn K (.ref A) "__class__") (some (some (.builtin "object.__class__"))) && (He.eqO (PySem.W.specialIn K (.builtin "object.__class__") "__get__") (some (some (.builtin "getset_descriptor.__get__"))) && (eqOB (PySem.W.takesIn K (.builtin "object.__class__")) (some true) && eqOB (PySem.W.mroIn K A (.type "object")) (some true)))))))
theorem excCB_ok {K : Fr} {A : Addr} (h : excCB K A = true) : ExcC K A := by
  obtain ⟨h1, h⟩ := He.ba h
  obtain ⟨h2, h⟩ := He.ba h
  obtain ⟨h3, h⟩ := He.ba h
  obtain ⟨h4, h⟩ := He.ba h
  obtain ⟨h5, h⟩ := He.ba h
  obtain ⟨h6, h⟩ := He.ba h
  obtain ⟨h7, h8⟩ := He.ba h
  exact ⟨He.eqO_ok h1, He.eqO_ok h2, of_decide_eq_true h3, h4, He.eqO_ok h5, He.eqO_ok h6, of_decide_eq_true h7, of_decide_eq_true h8⟩
abbrev gloB (K : Fr) (x : Str) : Bool := (He.Fa.glo x).ok K
def xokB (K : Fr) (H : List (Str × List Str)) : Bool := H.all fun p => gloB K p.1 && (excCB K (He.ga K p.1) && (xfB K (He.ga K p.1) && H.all fun q => eqOB (PySem.W.exmOne K (.ref (He.ga K p.1)) (.ref (He.ga K q.1))) (some (p.2.contains q.1)) && eqOB (PySem.W.kitOne K (.ref (He.ga K p.1)) (.ref (He.ga K q.1))) (some (p.2.contains q.1))))
theorem xokB_ok {K : Fr} {h : Heap} {mg : Str → Option Value} {H : List (Str × List Str)} (X : K.In h) (G : h.Ns mainGlobals mg) (e : xokB K H = true) : XOk K mg H := by
  refine ⟨fun p hp => ?_⟩
  obtain ⟨h1, e1⟩ := He.ba (List.all_eq_true.mp e p hp)
  obtain ⟨h2, e1⟩ := He.ba e1
  obtain ⟨h3, h4⟩ := He.ba e1
  refine ⟨_, He.glo_ok X G h1, excCB_ok h2, xfB_ok h3, fun q hq => ?_⟩
  obtain ⟨q1, q2⟩ := He.ba (List.all_eq_true.mp h4 q hq)
  exact ⟨_, He.glo_ok X G (He.ba (List.all_eq_true.mp e q hq)).1, of_decide_eq_true q1, of_decide_eq_true q2⟩
/-- a class with an own __init__ -/
def oexB (K : Fr) (C : Addr) : Bool := (match K.lookup C with
  | some ⟨.type "type", _, .cls cd, sl⟩ => (match cd.mro, sl.toList with
    | .ref C' :: bm, [_, _, _, _, some (.builtin n), _] => C' == C && n == "ValueError.__new__" && !cd.hasDel && cd.hasDict && PySem.HandSPX.refsVE bm
    | _, _ => false)
  | _ => false) && (He.eqO (PySem.W.findIn K (.ref C) "__setattr__") (some (some (.builtin "object.__setattr__"))) && (eqOB (PySem.W.subIn K (.ref C) (.type "BaseException")) (some true) && (eqOV (PySem.W.typeIn K (.ref C)) (some (.type "type")) && PySem.W.keepIn K (.ref C))))
theorem oexB_ok {K : Fr} {C : Addr} (h : oexB K C = true) : OexC K C := by
  obtain ⟨q, h⟩ := He.ba h
  obtain ⟨h2, h⟩ := He.ba h
  obtain ⟨h3, h⟩ := He.ba h
  obtain ⟨h4, h5⟩ := He.ba h
  refine ⟨?_, He.eqO_ok h2, of_decide_eq_true h3, of_decide_eq_true h4, h5⟩
  split at q
  · rename_i dd cd sl ho
    split at q
    · rename_i C' bm k0 k1 k2 k3 n k5 hm hs
      simp only [Bool.and_eq_true, beq_iff_eq, Bool.not_eq_true'] at q
      obtain ⟨⟨⟨⟨rfl, rfl⟩, hdel⟩, hdct⟩, ht⟩ := q
      obtain ⟨nm, bs, mro, ns, qn, hd, sn, sub, ab, col, del⟩ := cd
      dsimp only at hm hdel hdct
      subst hm hdel hdct
      have hsl : sl = #[k0, k1, k2, k3, some (.builtin "ValueError.__new__"), k5] := by
        obtain ⟨l⟩ := sl
        simp only at hs
        rw [hs]
      subst hsl
      exact ⟨nm, qn, ns, bs, bm, sn, sub, ab, col, dd, k0, k1, k2, k3, k5, ho, ht⟩
    · cases q
  · cases q
def ex1B (K : Fr) (x fld : Str) : Bool := gloB K x && (oexB K (He.ga K x) && (He.eqO (PySem.W.findIn K (.ref (He.ga K x)) "__init__") (some (some (.ref (He.ma K (He.ga K x) "__init__")))) && (eqOV (PySem.W.typeIn K (.ref (He.ma K (He.ga K x) "__init__"))) (some (.type "function")) && He.eqO (PySem.W.findIn K (.ref (He.ga K x)) fld) (some none))))
section
variable {P : Program} {w : World} {K : Fr} {mg : Str → Option Value} {base h : Heap} {G : List (Str × Gk)} {X0 : List (Str × List Str)}
theorem gok_ex0 (X : K.In h) (N : h.Ns mainGlobals mg) (hG : GOk P w K mg base G) {x : Str} (hg : gloB K x = true) (e : (He.Fa.exc x).ok K = true) : GOk P w K mg base ((x, .ex0) :: G) := by
  obtain ⟨h1, h2, h3, h4⟩ := He.exc_ok e
  exact hG.add ⟨He.ga K x, He.veBase, "ValueError", "ValueError.__new__", "ValueError.__init__", PySem.F.excBase_ValueError, h1, He.glo_ok X N hg, h2, h3, h4⟩
theorem gok_ex1 (X : K.In h) (N : h.Ns mainGlobals mg) (hG : GOk P w K mg base G) {x fld sf y qual : Str} {params : Arguments} {scope : Scope} {fd : FuncData} {pa pb pc pd : Pos} (e : ex1B K x fld = true)
    (F : FunD K "__init__" qual params [.Assign [.Attribute (.Name sf pa) fld pb] (.Name y pc) pd] scope [] [] (He.ma K (He.ga K x) "__init__") fd) (S : FnScope [sf, y] [sf, y] scope) (hds : (sf == ("__debug__" : Str)) = false) (hcs : (sf == ("__classdict__" : Str)) = false) (hdy : (y == ("__debug__" : Str)) = false) (hcy : (y == ("__classdict__" : Str)) = false)
    (hb : Binds K fd [sf, y] []) : GOk P w K mg base ((x, .ex1 fld 1) :: G) := by
  obtain ⟨h1, e⟩ := He.ba e
  obtain ⟨h2, e⟩ := He.ba e
  obtain ⟨h3, e⟩ := He.ba e
  obtain ⟨h4, h5⟩ := He.ba e
  exact hG.add ⟨He.ga K x, He.ma K (He.ga K x) "__init__", fd, [sf, y], oexB_ok h2, He.eqO_ok h3, of_decide_eq_true h4, init_ok F S hds hcs hdy hcy, hb, He.glo_ok X N h1, He.eqO_ok h5⟩
theorem gok_int (X : K.In h) (N : h.Ns mainGlobals mg) (hG : GOk P w K mg base G) {x : Str} {i : Int} (e : (He.Fa.int x i).ok K = true) : GOk P w K mg base ((x, .con (.int i)) :: G) := by
  obtain ⟨t, m⟩ := He.int_ok X N e
  exact hG.add ⟨⟨.int i t, .int i, m, ⟨t, rfl⟩, fun _ _ => .int i⟩, nofun⟩
theorem gok_str (X : K.In h) (N : h.Ns mainGlobals mg) (hG : GOk P w K mg base G) {x z : Str} (e : (He.Fa.str x z).ok K = true) : GOk P w K mg base ((x, .con (.str z)) :: G) := by
  obtain ⟨t, m⟩ := He.str_ok X N e
  exact hG.add ⟨⟨.str z t, .str z, m, ⟨t, rfl⟩, fun _ _ => .str z⟩, nofun⟩
/-! constant tuples -/
mutual
def repB (K : Fr) : D → Value → Bool
  | .none, .none => true
  | .bool b, .bool c => b == c
  | .int i, .int j _ => decide (i = j)
  | .str x, .str y _ => decide (x = y)
  | .tuple ds, .ref a => (match K.lookup a with
    | some ⟨.type c, _, .seq its _, _⟩ => decide (c = "tuple") && (decide (its.size ≤ sizeLine) && repBs K ds its.toList)
    | _ => false)
  | _, _ => false
def repBs (K : Fr) : List D → List Value → Bool
  | [], [] => true
  | d :: ds, u :: us => repB K d u && repBs K ds us
  | _, _ => false
end
mutual
theorem repB_ok {K : Fr} : ∀ {d : D} {u : Value}, repB K d u = true → ∃ v, RelV v u ∧ (∀ A H, Rp K A H v d) ∧ ∀ ds, d ≠ .list ds
  | .none, u, h => by cases u <;> first | exact ⟨.non, rfl, fun _ _ => .non, nofun⟩ | (simp [repB] at h; done)
  | .bool b, u, h => by cases u <;> first | (simp [repB] at h; done) | exact ⟨.bl b, by simp [repB] at h; subst h; rfl, fun _ _ => .bl b, nofun⟩
  | .int b, u, h => by cases u <;> first | (simp [repB] at h; done) | exact ⟨.int b, by simp [repB] at h; subst h; exact ⟨_, rfl⟩, fun _ _ => .int b, nofun⟩
  | .str b, u, h => by cases u <;> first | (simp [repB] at h; done) | exact ⟨.str b, by simp [repB] at h; subst h; exact ⟨_, rfl⟩, fun _ _ => .str b, nofun⟩
  | .list ds, u, h => by cases u <;> (simp [repB] at h)
  | .dict ds, u, h => by cases u <;> (simp [repB] at h)
  | .tuple ds, u, h => by
    cases u with
    | ref a =>
      simp only [repB] at h
      split at h
      · rename_i c od its n sl lk
        simp only [Bool.and_eq_true, decide_eq_true_eq] at h
        obtain ⟨h1, h2, h3⟩ := h
        obtain ⟨xs, r, q⟩ := repBs_ok h3
        subst h1
        exact ⟨.ref a, rfl, fun A H => .tup (.inr ⟨_, its, n, lk, rfl, rfl, h2, r⟩) (q A H), nofun⟩
      · cases h
    | _ => simp [repB] at h
theorem repBs_ok {K : Fr} : ∀ {ds : List D} {us : List Value}, repBs K ds us = true → ∃ xs, Vals xs us ∧ ∀ A H, RpAll K A H xs ds
  | [], [], _ => ⟨[], .nil, fun _ _ => .nil⟩
  | [], _ :: _, h => by simp [repBs] at h
  | _ :: _, [], h => by simp [repBs] at h
  | d :: ds, u :: us, h => by
    simp only [repBs, Bool.and_eq_true] at h
    obtain ⟨v, r, q, _⟩ := repB_ok h.1
    obtain ⟨xs, r2, q2⟩ := repBs_ok h.2
    exact ⟨v :: xs, .cons r r2, fun A H => .cons (q A H) (q2 A H)⟩
end
def conTB (K : Fr) (x : Str) (d : D) : Bool := match PySem.W.nsIn K mainGlobals x with
  | some (some u) => repB K d u
  | _ => false
theorem gok_tup (X : K.In h) (N : h.Ns mainGlobals mg) (hG : GOk P w K mg base G) {x : Str} {d : D} (e : conTB K x d = true) : GOk P w K mg base ((x, .con d) :: G) := by
  unfold conTB at e
  split at e
  · rename_i u eu
    obtain ⟨v, r, q, z⟩ := repB_ok e
    exact hG.add ⟨⟨u, v, PySem.W.mg_of X N eu, r, q⟩, z⟩
  · cases e
theorem gok_fn (X : K.In h) (N : h.Ns mainGlobals mg) (hG : GOk P w K mg base G) {x qual : Str} {params : Arguments} {body : List Stmt} {scope : Scope} {fd : FuncData} {ps : List Str} {vs : List FnI} (hg : gloB K x = true) (F : FunD K x qual params body scope [] [] (He.ga K x) fd) (hb : Binds K fd ps [])
    (h : ∀ i ∈ vs, FnOk P w K mg base (L2.CX P w) i.lv (He.ga K x) fd ps (spOf K mg (fun j => i.io.contains j) i.fr i.F)) : GOk P w K mg base ((x, .fn vs) :: G) :=
  hG.add ⟨He.ga K x, fd, ps, He.glo_ok X N hg, F.kp, hb, h⟩
theorem gok_lamw (X : K.In h) (N : h.Ns mainGlobals mg) (hG : GOk P w K mg base G) {x wd : Str} {hh : Xc → Option D} (h : LamwOk P w K mg base x wd hh) : GOk P w K mg base ((x, .lamw wd hh) :: G) := hG.add h
theorem all1 {α : Type} {p : α → Prop} {a : α} (h : p a) : ∀ x ∈ [a], p x := fun x hx => by
  rw [List.mem_singleton.mp hx]; exact h
theorem all2 {α : Type} {p : α → Prop} {a : α} {l : List α} (h : p a) (t : ∀ x ∈ l, p x) : ∀ x ∈ a :: l, p x := fun x hx => by
  rcases List.mem_cons.mp hx with e | e
  · rw [e]; exact h
  · exact t x e
/-! lambdas -/
/-- what the base holds of the defs that make lambdas -/
def BaseT (K : Fr) (mg : Str → Option Value) (base : Heap) (tf : List He.Defn) : Prop := ∀ p ∈ tf.map (He.cT K), TabB base mg p.1 p.2
def tkB (K : Fr) (tf : List He.Defn) : Bool := (TK K).all fun p => (tf.any fun q => (He.cT K q).2 == p.1) && (TK K).all fun q => !(p.1 == q.1) || p.2 == q.2
theorem lam_at {x : Str} {params : Arguments} {body : List Stmt} {scope : Scope} {fd : FuncData} {tf : List He.Defn} (F : FunD K x x params body scope [] [] (He.ga K x) fd) (hx : x ∈ lamDefs) (ht : (x, none) ∈ tf) (b : BaseT K mg base tf) (e : tkB K tf = true) :
    ∃ cc T, TabB base mg cc T ∧ fd.code = .ref cc ∧ (T, x ++ (".<locals>." : Str) ++ "<lambda>") ∈ TK K ∧ ∀ p ∈ TK K, p.1 = T → p.2 = x ++ (".<locals>." : Str) ++ "<lambda>" := by
  obtain ⟨oc, od, dV, kV, doc, pm, an, cdv, ct, osl, rfl, lk, hcd, _, _⟩ := F.ex
  obtain ⟨c, rfl⟩ := He.codeIn_ref hcd
  have lk : K.lookup (He.fAd K (x, none)) = some ⟨oc, od, .func (PySem.W.fnOf x x params body scope dV kV doc pm an (.ref c) ct), osl⟩ := lk
  have ec : He.codeOf K (x, none) = c := He.codeOf_eq lk rfl
  have tb := b _ (List.mem_map.mpr ⟨_, ht, rfl⟩)
  have m : ((He.cT K (x, none)).2, x ++ (".<locals>." : Str) ++ ("<lambda>" : Str)) ∈ TK K := by
    unfold TK
    refine List.mem_filterMap.mpr ⟨x, hx, ?_⟩
    rw [lk]
  refine ⟨_, _, tb, ?_, m, fun p hp ep => ?_⟩
  · show Value.ref c = .ref (He.codeOf K (x, none))
    rw [ec]
  · have h1 := List.all_eq_true.mp (He.ba (List.all_eq_true.mp e _ hp)).2 _ m
    rw [Bool.or_eq_true] at h1
    rcases h1 with h1 | h1
    · rw [ep] at h1
      simp at h1
    · exact eq_of_beq h1
end
theorem z_cx {P : Program} {w : World} {outer : List Env} {H : Hp} {s s' : Shared} {e : Value} (z : L2.CX P w outer H s (fun _ _ _ => False) e s') : False := by
  obtain ⟨_, _, _, _, _, _, _, _, _, _, _, _, z⟩ := z
  exact z
/-- the end -/
theorem law_at {l : PySem.W.OpenLaw} {w : World} {K : Fr} {mg : Str → Option Value} {h : Heap} {fas : List He.Fa} {fn : List He.DefD} {ts : List He.Tab} {tf : List He.Defn} {ex : Fr → Bool} {params : Arguments} {body : List Stmt} {scope : Scope} {fd : FuncData} {k : Nat} {fr : Bool} {F : List D → Oc D} {f : Addr}
    (X : K.In h) (G : h.Ns mainGlobals mg) (c : He.SaysX fas fn ts tf ex w h K) (Fd : FunD K "law" "law" params body scope [] [] f fd) (hb : ∀ (kV doc pm : Value) (an : Option Addr) (cdv ct : Value) (us : List Value), us.length = 1 → bindArgs (PySem.W.fnOf "law" "law" params body scope .none kV doc pm an cdv ct) ⟨us, []⟩ = pure ((["script"] : List Str).zip us)) (htk : tkB K tf = true)
    (hF : ∀ base : Heap, K.In base → base.Ns mainGlobals mg → BaseT K mg base tf → FnOk l.prog w K mg base (L2.CX l.prog w) k f fd ["script"] (spOf K mg (fun i => ([] : List Nat).contains i) fr F))
    (hm : ∀ ns : List Int, ns.length ≤ 63 → (∀ z ∈ ns, Builtin.Int.intBits z ≤ 1048576) → ∃ ρ, F [.dict [(.none, .list (ns.map .int))]] = .ok (.bool true) ρ) :
    LawAtS l w K (L2.CX l.prog w) k 63 "script" mg f h := by
  refine ⟨fd, tf.map (He.cT K), _, fun p hp => ?_, fun p hp => ?_, fun p hp => ?_, fun s u => FunD.bindsA (ps := ["script"]) Fd hb s [u] rfl, fun H a ns hl hbits hT hS => ?_, hF⟩
  · obtain ⟨q, hq, e⟩ := List.mem_map.mp hp
    rw [← e]; exact c.empty q hq
  · obtain ⟨q, hq, e⟩ := List.mem_map.mp hp
    rw [← e]; exact c.out q hq
  · obtain ⟨q, hq, e⟩ := List.mem_map.mp hp
    rw [← e]; exact PySem.W.codeHd_of_K X (c.hd q hq)
  · obtain ⟨ρ, e⟩ := hm ns hl hbits
    have tb : Tabs (TK K) H := fun p hp => by
      obtain ⟨q, hq, eq⟩ := List.any_eq_true.mp (He.ba (List.all_eq_true.mp htk p hp)).1
      have := hT _ (List.mem_map.mpr ⟨q, hq, rfl⟩)
      rw [eq_of_beq eq] at this
      exact .nil this
    refine ⟨fun _ => False, fun _ => none, [.dict [(.none, .list (ns.map .int))]], ⟨rfl, fun i d e1 _ => ?_, fun i d e1 z => ?_, nofun, nofun, nofun, fun b z => z.elim, nofun, tb⟩, ?_⟩
    · cases i with
      | zero =>
        cases e1
        refine ⟨.ref a, rfl, .scr (.of hS fun z => ?_) ?_⟩
        · rcases z with z | ⟨i, z⟩
          · exact z
          · cases z
        · clear hS hl hbits e hT
          induction ns with
          | nil => exact .nil
          | cons n r ih => exact .cons (.int n) ih
      | succ i => cases e1
    · cases z
    · rw [e]
      intro v H' _ _ _ r _
      exact r.eBl
end Cr
end
section
set_option Elab.async false
set_option linter.all false
set_option maxRecDepth 100000
set_option maxHeartbeats 4000000
namespace Cr
open PySem PySem.Spec L2
set_option autoImplicit false
/-! ### the mirrors written out -/
def mk (l : List Nat) : Str := ⟨l.toArray⟩
def M.op1 (g : D → Option D) (a : M D) : M D := a.bind fun d => M.lift (g d)
def M.op2 (g : D → D → Option D) (a b : M D) : M D := a.bind fun d => b.bind fun f => M.lift (g d f)
def M.list : List (M D) → M (List D)
  | [] => M.pure []
  | a :: r => a.bind fun d => (M.list r).bind fun ds => M.pure (d :: ds)
def M.tupL (l : List (M D)) : M D := (M.list l).bind fun ds => M.lift (dTup ds)
def M.lstL (l : List (M D)) : M D := (M.list l).bind fun ds => M.lift (dLst ds)
def M.noI : M (Option Int) := M.pure none
def M.someI (m : M D) : M (Option Int) := m.bind fun d => M.lift (dI d)
def M.cut (a : M D) (lo hi : M (Option Int)) : M D := a.bind fun d => lo.bind fun l => hi.bind fun h => M.lift (dCut l h d)
def M.src (a : M D) : M (List D × Gd) := a.bind fun d => M.lift (dSrc d)
def M.rg (g : List D → Option (List D × Gd)) (l : List (M D)) : M (List D × Gd) := (M.list l).bind fun ds => M.lift (g ds)
/-- an argument: a value, a slot that is held -/
inductive Ar where
  | v (m : M D)
  | o (i : Nat)
def M.args : List Ar → M (List D)
  | [] => M.pure []
  | .v a :: r => a.bind fun d => (M.args r).bind fun ds => M.pure (d :: ds)
  | .o i :: r => (M.get i).bind fun _ => (M.args r).bind fun ds => M.pure (.none :: ds)
def M.callL (F : List D → Oc D) (as : List Ad) (l : List Ar) : M D := (M.args l).bind fun ds => M.callA as F ds
def M.callRL (F : List D → Oc D) (as : List Ad) (l : List Ar) : M D := ((M.args l).bind fun ds => M.callR as F ds).bind M.chk
def M.isi (T : String) (a : M D) : M D := a.bind fun d => M.pure (.bool (isTy T d))
def M.bltL (g : List D → Option D) (l : List (M D)) : M D := (M.list l).bind fun ds => M.lift (g ds)
def M.mO (i : Nat) (g : List D → List D → Option (D × List D)) (l : List (M D)) : M D := (M.get i).bind fun _ => (M.list l).bind fun ds => M.meth i g ds
def M.exp (m : M D) : M Fl := m.bind fun _ => M.nx
end Cr
end
section
set_option Elab.async false
set_option linter.all false
set_option maxRecDepth 100000
set_option maxHeartbeats 4000000
namespace Cr
open PySem PySem.Spec L2
set_option autoImplicit false
/-! ### what a mirror ends with -/
def Oc.wp {α : Type} (o : Oc α) (Q : α → Ev → Prop) (E : Xc → Ev → Prop) : Prop := match o with
  | .ok a ρ => Q a ρ
  | .exc x ρ => E x ρ
  | .bad => False
def wp {α : Type} (m : M α) (ρ : Ev) (Q : α → Ev → Prop) (E : Xc → Ev → Prop) : Prop := (m ρ).wp Q E
def wl {α : Type} (o : Option α) (Q : α → Prop) : Prop := match o with
  | some a => Q a
  | none => False
theorem Oc.wp.mono {α : Type} {o : Oc α} {Q Q' : α → Ev → Prop} {E E' : Xc → Ev → Prop} (h : o.wp Q E) (q : ∀ a ρ, Q a ρ → Q' a ρ) (e : ∀ x ρ, E x ρ → E' x ρ) : o.wp Q' E' := by
  cases o with
  | ok a ρ => exact q a ρ h
  | exc x ρ => exact e x ρ h
  | bad => exact h
theorem wp.mono {α : Type} {m : M α} {ρ : Ev} {Q Q' : α → Ev → Prop} {E E' : Xc → Ev → Prop} (h : wp m ρ Q E) (q : ∀ a ρ, Q a ρ → Q' a ρ) (e : ∀ x ρ, E x ρ → E' x ρ) : wp m ρ Q' E' := Oc.wp.mono h q e
section
variable {α β : Type} {ρ : Ev} {E : Xc → Ev → Prop}
theorem w_ok {o : Oc α} {a : α} {Q : α → Ev → Prop} (h : o = .ok a ρ) (q : Q a ρ) : o.wp Q E := by rw [h]; exact q
theorem w_at {o : Oc α} {a : α} (h : o.wp (fun b ρ' => b = a ∧ ρ' = ρ) (fun _ _ => False)) : o = .ok a ρ := by
  cases o with
  | ok b ρ' => obtain ⟨rfl, rfl⟩ := h; rfl
  | exc x ρ' => exact h.elim
  | bad => exact h.elim
theorem w_bind {m : M α} {f : α → M β} {Q : β → Ev → Prop} (h : wp m ρ (fun a ρ1 => wp (f a) ρ1 Q E) E) : wp (m.bind f) ρ Q E := by
  unfold wp M.bind at *
  cases e : m ρ with
  | ok a ρ1 => rw [e] at h; exact h
  | exc x ρ1 => rw [e] at h; exact h
  | bad => rw [e] at h; exact h
theorem w_pure {a : α} {Q : α → Ev → Prop} (h : Q a ρ) : wp (M.pure a) ρ Q E := h
theorem w_lift {a : α} {o : Option α} {Q : α → Ev → Prop} (e : o = some a) (h : Q a ρ) : wp (M.lift o) ρ Q E := by
  subst e; exact h
theorem w_lift' {o : Option α} {Q : α → Ev → Prop} (h : wl o fun a => Q a ρ) : wp (M.lift o) ρ Q E := by
  cases o with
  | some a => exact h
  | none => exact h.elim
theorem w_get {i : Nat} {d : D} {Q : D → Ev → Prop} (e : ρ[i]? = some (some d)) (h : Q d ρ) : wp (M.get i) ρ Q E := by
  unfold wp M.get
  rw [e]; exact h
theorem w_setD {i : Nat} {d : D} {Q : Unit → Ev → Prop} (h : Q () (ρ.set i (some d))) : wp (M.setD i d) ρ Q E := h
theorem w_setO {i : Nat} {ds : List D} {Q : Unit → Ev → Prop} (h : Q () (ρ.set i (some (.list ds)))) : wp (M.setO i (.list ds)) ρ Q E := h
theorem w_setNil {Q : Unit → Ev → Prop} (h : Q () ρ) : wp (M.setNil []) ρ Q E := h
theorem w_setCons {g : D → M Unit} {u : List D → M Unit} {d : D} {ds : List D} {Q : Unit → Ev → Prop} (h : wp (g d) ρ (fun _ ρ1 => wp (u ds) ρ1 Q E) E) : wp (M.setCons g u (d :: ds)) ρ Q E := w_bind h
theorem w_setTup {n : Nat} {u : List D → M Unit} {ds : List D} {Q : Unit → Ev → Prop} (hn : ds.length = n) (h : wp (u ds) ρ Q E) : wp (M.setTup n u (.tuple ds)) ρ Q E := by
  show wp (if ds.length = n then u ds else M.bad) ρ Q E
  rw [if_pos hn]; exact h
/-! expressions -/
theorem w_op1 {g : D → Option D} {a : M D} {Q : D → Ev → Prop} (h : wp a ρ (fun d ρ1 => wp (M.lift (g d)) ρ1 Q E) E) : wp (M.op1 g a) ρ Q E := w_bind h
theorem w_op2 {g : D → D → Option D} {a b : M D} {Q : D → Ev → Prop} (h : wp a ρ (fun d ρ1 => wp b ρ1 (fun f ρ2 => wp (M.lift (g d f)) ρ2 Q E) E) E) : wp (M.op2 g a b) ρ Q E := w_bind (h.mono (fun _ _ h => w_bind h) fun _ _ h => h)
theorem w_nil {Q : List D → Ev → Prop} (h : Q [] ρ) : wp (M.list []) ρ Q E := h
theorem w_cons {a : M D} {r : List (M D)} {Q : List D → Ev → Prop} (h : wp a ρ (fun d ρ1 => wp (M.list r) ρ1 (fun ds ρ2 => Q (d :: ds) ρ2) E) E) : wp (M.list (a :: r)) ρ Q E := w_bind (h.mono (fun _ _ h => w_bind h) fun _ _ h => h)
theorem w_anil {Q : List D → Ev → Prop} (h : Q [] ρ) : wp (M.args []) ρ Q E := h
theorem w_av {a : M D} {r : List Ar} {Q : List D → Ev → Prop} (h : wp a ρ (fun d ρ1 => wp (M.args r) ρ1 (fun ds ρ2 => Q (d :: ds) ρ2) E) E) : wp (M.args (.v a :: r)) ρ Q E := w_bind (h.mono (fun _ _ h => w_bind h) fun _ _ h => h)
theorem w_ao {i : Nat} {r : List Ar} {Q : List D → Ev → Prop} (h : wp (M.get i) ρ (fun _ ρ1 => wp (M.args r) ρ1 (fun ds ρ2 => Q (.none :: ds) ρ2) E) E) : wp (M.args (.o i :: r)) ρ Q E := w_bind (h.mono (fun _ _ h => w_bind h) fun _ _ h => h)
theorem w_tupL {l : List (M D)} {Q : D → Ev → Prop} (h : wp (M.list l) ρ (fun ds ρ1 => wp (M.lift (dTup ds)) ρ1 Q E) E) : wp (M.tupL l) ρ Q E := w_bind h
theorem w_lstL {l : List (M D)} {Q : D → Ev → Prop} (h : wp (M.list l) ρ (fun ds ρ1 => wp (M.lift (dLst ds)) ρ1 Q E) E) : wp (M.lstL l) ρ Q E := w_bind h
theorem w_bltL {g : List D → Option D} {l : List (M D)} {Q : D → Ev → Prop} (h : wp (M.list l) ρ (fun ds ρ1 => wp (M.lift (g ds)) ρ1 Q E) E) : wp (M.bltL g l) ρ Q E := w_bind h
theorem w_isi {T : String} {a : M D} {Q : D → Ev → Prop} (h : wp a ρ (fun d ρ1 => Q (.bool (isTy T d)) ρ1) E) : wp (M.isi T a) ρ Q E := w_bind h
theorem w_noI {Q : Option Int → Ev → Prop} (h : Q none ρ) : wp M.noI ρ Q E := h
theorem w_someI {m : M D} {Q : Option Int → Ev → Prop} (h : wp m ρ (fun d ρ1 => wp (M.lift (dI d)) ρ1 Q E) E) : wp (M.someI m) ρ Q E := w_bind h
theorem w_dI {i : Int} {Q : Option Int → Ev → Prop} (h : Q (some i) ρ) : wp (M.lift (dI (.int i))) ρ Q E := h
theorem w_cut {a : M D} {lo hi : M (Option Int)} {Q : D → Ev → Prop} (h : wp a ρ (fun d ρ1 => wp lo ρ1 (fun l ρ2 => wp hi ρ2 (fun u ρ3 => wp (M.lift (dCut l u d)) ρ3 Q E) E) E) E) : wp (M.cut a lo hi) ρ Q E :=
  w_bind (h.mono (fun _ _ h => w_bind (h.mono (fun _ _ h => w_bind h) fun _ _ h => h)) fun _ _ h => h)
theorem w_ixO {j : Nat} {b : M D} {Q : D → Ev → Prop} (h : wp (M.get j) ρ (fun _ ρ1 => wp b ρ1 (fun f ρ2 => wp (M.get j) ρ2 (fun d ρ3 => wp (M.lift (dIx d f)) ρ3 Q E) E) E) E) : wp (M.ixO j b) ρ Q E :=
  w_bind (h.mono (fun _ _ h => w_bind (h.mono (fun _ _ h => w_bind h) fun _ _ h => h)) fun _ _ h => h)
/-- both ways of a test -/
def kIf (a b : M α) (Q : α → Ev → Prop) (E : Xc → Ev → Prop) (x : Bool) (ρ : Ev) : Prop := (x = true → wp a ρ Q E) ∧ (x = false → wp b ρ Q E)
theorem k_t {a b : M α} {Q : α → Ev → Prop} (h : wp a ρ Q E) : kIf a b Q E true ρ := ⟨fun _ => h, nofun⟩
theorem k_f {a b : M α} {Q : α → Ev → Prop} (h : wp b ρ Q E) : kIf a b Q E false ρ := ⟨nofun, fun _ => h⟩
theorem k_if {a b : M α} {Q : α → Ev → Prop} {x : Bool} (h : x = true → wp a ρ Q E) (g : x = false → wp b ρ Q E) : kIf a b Q E x ρ := ⟨h, g⟩
theorem w_ife {t : M Bool} {a b : M α} {Q : α → Ev → Prop} (h : wp t ρ (kIf a b Q E) E) : wp (M.ife t a b) ρ Q E := w_bind (h.mono (fun x _ h => by cases x; exact h.2 rfl; exact h.1 rfl) fun _ _ h => h)
theorem w_band {a b : M Bool} {Q : Bool → Ev → Prop} (h : wp a ρ (kIf b (M.pure false) Q E) E) : wp (M.band a b) ρ Q E := w_ife h
theorem w_bor {a b : M Bool} {Q : Bool → Ev → Prop} (h : wp a ρ (kIf (M.pure true) b Q E) E) : wp (M.bor a b) ρ Q E := w_ife h
theorem w_bnot {a : M Bool} {Q : Bool → Ev → Prop} (h : wp a ρ (fun x ρ1 => Q (!x) ρ1) E) : wp (M.bnot a) ρ Q E := w_bind h
theorem w_cmpB {m : M D} {Q : Bool → Ev → Prop} (h : wp m ρ (fun d ρ1 => wp (M.lift (dB d)) ρ1 Q E) E) : wp (M.cmpB m) ρ Q E := w_bind h
theorem w_tru {m : M D} {Q : Bool → Ev → Prop} (h : wp m ρ (fun d ρ1 => wp (M.lift (dTru d)) ρ1 Q E) E) : wp (M.tru m) ρ Q E := w_bind h
theorem w_dB {b : Bool} {Q : Bool → Ev → Prop} (h : Q b ρ) : wp (M.lift (dB (.bool b))) ρ Q E := h
theorem w_dTru {b : Bool} {Q : Bool → Ev → Prop} (h : Q b ρ) : wp (M.lift (dTru (.bool b))) ρ Q E := h
def kAnd (b : M D) (Q : D → Ev → Prop) (E : Xc → Ev → Prop) (d : D) (ρ : Ev) : Prop := ∃ x, d = .bool x ∧ kIf b (M.pure (.bool false)) Q E x ρ
def kOr (b : M D) (Q : D → Ev → Prop) (E : Xc → Ev → Prop) (d : D) (ρ : Ev) : Prop := ∃ x, d = .bool x ∧ kIf (M.pure (.bool true)) b Q E x ρ
theorem k_and {b : M D} {Q : D → Ev → Prop} {x : Bool} (h : kIf b (M.pure (.bool false)) Q E x ρ) : kAnd b Q E (.bool x) ρ := ⟨x, rfl, h⟩
theorem k_or {b : M D} {Q : D → Ev → Prop} {x : Bool} (h : kIf (M.pure (.bool true)) b Q E x ρ) : kOr b Q E (.bool x) ρ := ⟨x, rfl, h⟩
theorem w_andV {a b : M D} {Q : D → Ev → Prop} (h : wp a ρ (kAnd b Q E) E) : wp (M.andV a b) ρ Q E := w_bind (h.mono (fun d _ ⟨x, e, h⟩ => by subst e; cases x; exact h.2 rfl; exact h.1 rfl) fun _ _ h => h)
theorem w_orV {a b : M D} {Q : D → Ev → Prop} (h : wp a ρ (kOr b Q E) E) : wp (M.orV a b) ρ Q E := w_bind (h.mono (fun d _ ⟨x, e, h⟩ => by subst e; cases x; exact h.2 rfl; exact h.1 rfl) fun _ _ h => h)
def kNot (Q : D → Ev → Prop) (d : D) (ρ : Ev) : Prop := ∃ x, d = .bool x ∧ Q (.bool (!x)) ρ
theorem k_not {Q : D → Ev → Prop} {x : Bool} (h : Q (.bool (!x)) ρ) : kNot Q (.bool x) ρ := ⟨x, rfl, h⟩
theorem w_notV {a : M D} {Q : D → Ev → Prop} (h : wp a ρ (kNot Q) E) : wp (M.notV a) ρ Q E := w_bind (h.mono (fun d _ ⟨x, e, h⟩ => by subst e; exact h) fun _ _ h => h)
def kCh (g' : D → D → Option D) (y : D) (md : M D) (Q : D → Ev → Prop) (E : Xc → Ev → Prop) (z : D) (ρ : Ev) : Prop := ∃ x, z = .bool x ∧ (x = true → wp md ρ (fun w ρ1 => wp (M.lift (g' y w)) ρ1 Q E) E) ∧ (x = false → Q (.bool false) ρ)
theorem k_ch {g' : D → D → Option D} {y : D} {md : M D} {Q : D → Ev → Prop} {x : Bool} (h : x = true → wp md ρ (fun w ρ1 => wp (M.lift (g' y w)) ρ1 Q E) E) (g : x = false → Q (.bool false) ρ) : kCh g' y md Q E (.bool x) ρ := ⟨x, rfl, h, g⟩
theorem w_chain {g g' : D → D → Option D} {a b d : M D} {Q : D → Ev → Prop} (h : wp a ρ (fun x ρ1 => wp b ρ1 (fun y ρ2 => wp (M.lift (g x y)) ρ2 (kCh g' y d Q E) E) E) E) : wp (M.chain g g' a b d) ρ Q E :=
  w_bind (h.mono (fun _ _ h => w_bind (h.mono (fun _ _ h => w_bind (h.mono (fun z _ ⟨x, e, h1, h2⟩ => by subst e; cases x; exact h2 rfl; exact w_bind (h1 rfl)) fun _ _ h => h)) fun _ _ h => h)) fun _ _ h => h)
/-! calls -/
theorem w_callL {F : List D → Oc D} {as : List Ad} {l : List Ar} {Q : D → Ev → Prop} (h : wp (M.args l) ρ (fun ds ρ1 => wp (M.callA as F ds) ρ1 Q E) E) : wp (M.callL F as l) ρ Q E := w_bind h
theorem w_callRL {F : List D → Oc D} {as : List Ad} {l : List Ar} {Q : D → Ev → Prop} (h : wp (M.args l) ρ (fun ds ρ1 => wp (M.callR as F ds) ρ1 (fun d ρ2 => wp (M.chk d) ρ2 Q E) E) E) : wp (M.callRL F as l) ρ Q E := w_bind (w_bind (h.mono (fun _ _ h => h) fun _ _ h => h))
theorem w_chk {d : D} {Q : D → Ev → Prop} (e : noList d = true) (h : Q d ρ) : wp (M.chk d) ρ Q E := by
  unfold M.chk; rw [if_pos e]; exact h
theorem w_callA {F : List D → Oc D} {as : List Ad} {ds es : List D} {Q : D → Ev → Prop} (e : fillA as ds ρ = some es) (h : (F es).wp (fun d ρ' => Q d (backA as 0 ρ' ρ)) (fun x ρ' => E x (backA as 0 ρ' ρ))) : wp (M.callA as F ds) ρ Q E := by
  unfold wp M.callA
  rw [e]
  dsimp only
  cases eF : F es with
  | ok d ρ' => rw [eF] at h; exact h
  | exc x ρ' => rw [eF] at h; exact h
  | bad => rw [eF] at h; exact h
def valsA : List Ad → Bool
  | [] => true
  | .val _ :: r => valsA r
  | .own _ :: _ => false
theorem fill_vals : ∀ {as : List Ad} {ds : List D} {ρ : Ev}, valsA as = true → as.length = ds.length → fillA as ds ρ = some ds
  | [], [], _, _, _ => rfl
  | .val _ :: as, d :: ds, ρ, h, e => by
    show (fillA as ds ρ).map (d :: ·) = _
    rw [fill_vals (as := as) h (by simpa using e)]; rfl
  | .val _ :: _, [], _, _, e => by simp at e
  | [], _ :: _, _, _, e => by simp at e
theorem back_vals : ∀ {as : List Ad} {i : Nat} {ρ' ρ : Ev}, valsA as = true → backA as i ρ' ρ = ρ
  | [], _, _, _, _ => rfl
  | .val _ :: as, i, ρ', ρ, h => back_vals (as := as) (i := i + 1) h
theorem w_callP {F : List D → Oc D} {as : List Ad} {ds : List D} {Q : D → Ev → Prop} (v : valsA as = true) (l : as.length = ds.length) (h : (F ds).wp (fun d _ => Q d ρ) (fun x _ => E x ρ)) : wp (M.callA as F ds) ρ Q E :=
  w_callA (fill_vals v l) (h.mono (fun d ρ' q => by rw [back_vals v]; exact q) fun x ρ' q => by rw [back_vals v]; exact q)
/-- the first is held, no other -/
theorem w_callO {F : List D → Oc D} {as : List Ad} {ds : List D} {j : Nat} {hd : D} {Q : D → Ev → Prop} (e : ρ[j]? = some (some hd)) (v : valsA as = true) (l : as.length = ds.length)
    (h : (F (hd :: ds)).wp (fun d ρ' => ∃ h', ρ'[0]? = some (some h') ∧ Q d (ρ.set j (some h'))) (fun x ρ' => ∃ h', ρ'[0]? = some (some h') ∧ E x (ρ.set j (some h')))) : wp (M.callA (.own j :: as) F (.none :: ds)) ρ Q E := by
  have b : ∀ {ρ' : Ev} {h' : D}, ρ'[0]? = some (some h') → backA (.own j :: as) 0 ρ' ρ = ρ.set j (some h') := fun {ρ' h'} z => by
    show backA as 1 ρ' (match ρ'[0]? with
      | some (some d) => ρ.set j (some d)
      | _ => ρ) = _
    rw [back_vals v, z]
  refine w_callA (es := hd :: ds) ?_ (h.mono (fun d ρ' ⟨h', z, q⟩ => by rw [b z]; exact q) fun x ρ' ⟨h', z, q⟩ => by rw [b z]; exact q)
  unfold fillA
  rw [e]
  simp only [fill_vals v l, Option.map_some]
/-- two that are held -/
theorem w_callOO {F : List D → Oc D} {j j2 : Nat} {hd hd2 : D} {Q : D → Ev → Prop} (e : ρ[j]? = some (some hd)) (e2 : ρ[j2]? = some (some hd2))
    (h : (F [hd, hd2]).wp (fun d ρ' => ∃ h' h2', ρ'[0]? = some (some h') ∧ ρ'[1]? = some (some h2') ∧ Q d ((ρ.set j (some h')).set j2 (some h2'))) (fun x ρ' => ∃ h' h2', ρ'[0]? = some (some h') ∧ ρ'[1]? = some (some h2') ∧ E x ((ρ.set j (some h')).set j2 (some h2')))) : wp (M.callA [.own j, .own j2] F [.none, .none]) ρ Q E := by
  have b : ∀ {ρ' : Ev} {h' h2' : D}, ρ'[0]? = some (some h') → ρ'[1]? = some (some h2') → backA [.own j, .own j2] 0 ρ' ρ = (ρ.set j (some h')).set j2 (some h2') := fun {ρ' h' h2'} z z2 => by
    show (match ρ'[1]? with
      | some (some d) => (match ρ'[0]? with
        | some (some d) => ρ.set j (some d)
        | _ => ρ).set j2 (some d)
      | _ => (match ρ'[0]? with
        | some (some d) => ρ.set j (some d)
        | _ => ρ)) = _
    rw [z, z2]
  refine w_callA (es := [hd, hd2]) ?_ (h.mono (fun d ρ' ⟨h', h2', z, z2, q⟩ => by rw [b z z2]; exact q) fun x ρ' ⟨h', h2', z, z2, q⟩ => by rw [b z z2]; exact q)
  unfold fillA
  rw [e]
  unfold fillA
  rw [e2]
  rfl
theorem w_call0 {F : List D → Oc D} {Q : D → Ev → Prop} (h : (F []).wp (fun d _ => Q d ρ) (fun _ _ => False)) : wp (M.call0 F) ρ Q E := by
  unfold wp M.call0
  cases eF : F [] with
  | ok d ρ' => rw [eF] at h; exact h
  | exc x ρ' => rw [eF] at h; exact h.elim
  | bad => rw [eF] at h; exact h.elim
theorem w_lamW {w : Str} {hh : Xc → Option D} {m : M D} {Q : D → Ev → Prop} (h : wp m ρ (fun _ ρ1 => Q (.str w) ρ1) (fun x ρ1 => ∃ d, hh x = some d ∧ Q d ρ1)) : wp (M.lamW w hh m) ρ Q E := by
  unfold wp M.lamW
  unfold wp at h
  cases e : m ρ with
  | ok d ρ1 => rw [e] at h; exact h
  | exc x ρ1 => rw [e] at h; obtain ⟨d, h1, h2⟩ := h; simp only [h1]; exact h2
  | bad => rw [e] at h; exact h
theorem w_mt {T : String} {g : D → List D → Option D} {mo : M D} {m : M (List D)} {Q : D → Ev → Prop} (h : wp mo ρ (fun d ρ1 => tyD T d = true ∧ wp m ρ1 (fun ds ρ2 => wp (M.lift (g d ds)) ρ2 Q E) E) E) : wp (M.mt T g mo m) ρ Q E :=
  w_bind (h.mono (fun d _ ⟨e, h⟩ => w_bind (w_lift (a := d) (if_pos e) (w_bind h))) fun _ _ h => h)
theorem w_meth {i : Nat} {g : List D → List D → Option (D × List D)} {es ds ds' : List D} {d : D} {Q : D → Ev → Prop} (e : ρ[i]? = some (some (.list ds))) (eg : g ds es = some (d, ds')) (h : Q d (ρ.set i (some (.list ds')))) : wp (M.meth i g es) ρ Q E := by
  unfold wp M.meth
  rw [e]
  simp only [eg]
  exact h
theorem w_mO {i : Nat} {g : List D → List D → Option (D × List D)} {l : List (M D)} {Q : D → Ev → Prop} (h : wp (M.get i) ρ (fun _ ρ1 => wp (M.list l) ρ1 (fun ds ρ2 => wp (M.meth i g ds) ρ2 Q E) E) E) : wp (M.mO i g l) ρ Q E := w_bind (h.mono (fun _ _ h => w_bind h) fun _ _ h => h)
theorem w_app {i : Nat} {d : D} {ds : List D} {Q : D → Ev → Prop} (e : ρ[i]? = some (some (.list ds))) (hl : ds.length < sizeLine) (h : Q .none (ρ.set i (some (.list (ds ++ [d]))))) : wp (M.meth i gApp [d]) ρ Q E := w_meth e (if_pos hl) h
theorem w_ext {i : Nat} {fs : List D} {ds : List D} {Q : D → Ev → Prop} (e : ρ[i]? = some (some (.list ds))) (hl : ds.length + fs.length ≤ sizeLine) (h : Q .none (ρ.set i (some (.list (ds ++ fs))))) : wp (M.meth i gExt [.list fs]) ρ Q E := w_meth e (if_pos hl) h
/-! what is gone through -/
theorem w_src {a : M D} {Q : List D × Gd → Ev → Prop} (h : wp a ρ (fun d ρ1 => wp (M.lift (dSrc d)) ρ1 Q E) E) : wp (M.src a) ρ Q E := w_bind h
theorem w_srcL {ds : List D} {Q : List D × Gd → Ev → Prop} (h : Q (ds, []) ρ) : wp (M.lift (dSrc (.list ds))) ρ Q E := h
theorem w_srcT {ds : List D} {Q : List D × Gd → Ev → Prop} (h : Q (ds, []) ρ) : wp (M.lift (dSrc (.tuple ds))) ρ Q E := h
theorem w_srcS {l : List Nat} {Q : List D × Gd → Ev → Prop} (h : Q (l.map fun c => .str (mk [c]), []) ρ) : wp (M.lift (dSrc (.str (mk l)))) ρ Q E := h
theorem w_srcOwn {j : Nat} {ds : List D} {Q : List D × Gd → Ev → Prop} (e : ρ[j]? = some (some (.list ds))) (h : Q (ds, [(j, .list ds)]) ρ) : wp (M.srcOwn j) ρ Q E := w_bind (w_get e h)
theorem w_rg {g : List D → Option (List D × Gd)} {l : List (M D)} {Q : List D × Gd → Ev → Prop} (h : wp (M.list l) ρ (fun ds ρ1 => wp (M.lift (g ds)) ρ1 Q E) E) : wp (M.rg g l) ρ Q E := w_bind h
theorem w_enum {m : M (List D × Gd)} {Q : List D × Gd → Ev → Prop} (h : wp m ρ (fun p ρ1 => Q (enumD p.1, p.2) ρ1) E) : wp (M.enum m) ρ Q E := w_bind h
theorem w_zip {a b : M (List D × Gd)} {Q : List D × Gd → Ev → Prop} (h : wp a ρ (fun p ρ1 => wp b ρ1 (fun r ρ2 => Q (zipD p.1 r.1, p.2 ++ r.2) ρ2) E) E) : wp (M.zip a b) ρ Q E := w_bind (h.mono (fun _ _ h => w_bind h) fun _ _ h => h)
theorem w_lc {it : M (List D × Gd)} {turn : D → M (Option D)} {Q : D → Ev → Prop} (h : wp it ρ (fun p ρ1 => wp (M.lcGo p.2 turn p.1 []) ρ1 Q E) E) : wp (M.lc it turn) ρ Q E := w_bind h
theorem lcGo_eq {gs : Gd} {turn : D → M (Option D)} (f : D → Option D) (hg : chkG gs ρ = true) : ∀ {ds acc : List D}, (∀ d ∈ ds, turn d ρ = .ok (f d) ρ) → acc.length + ds.length ≤ sizeLine → M.lcGo gs turn ds acc ρ = .ok (.list (acc ++ ds.filterMap f)) ρ
  | [], acc, _, _ => by
    unfold M.lcGo; rw [hg]; simp
  | d :: ds, acc, h, hl => by
    unfold M.lcGo
    rw [hg, h d List.mem_cons_self]
    simp only [cond_true, Oc.bind]
    have hl : acc.length + (ds.length + 1) ≤ sizeLine := hl
    cases e : f d with
    | none =>
      simp only []
      rw [lcGo_eq f hg (fun d hd => h d (List.mem_cons_of_mem _ hd)) (by omega), List.filterMap_cons_none e]
    | some y =>
      simp only []
      rw [if_pos (by omega), lcGo_eq f hg (fun d hd => h d (List.mem_cons_of_mem _ hd)) (by simp; omega), List.filterMap_cons_some e, List.append_assoc]; rfl
/-- a turn that leaves the rest as it was -/
theorem turn_of {vs : List Nat} {g : D → M Unit} {t : M Bool} {e : M D} {d : D} {r : Option D}
    (h : wp (g d) (wipeE ρ vs) (fun _ ρ2 => wp t ρ2 (fun b ρ3 => (b = true → wp e ρ3 (fun y ρ4 => r = some y ∧ restE ρ ρ4 vs = ρ) fun _ _ => False) ∧ (b = false → r = none ∧ restE ρ ρ3 vs = ρ)) fun _ _ => False) fun _ _ => False) :
    M.lcTurn vs g t e d ρ = .ok r ρ := by
  unfold M.lcTurn
  have h2 : wp ((g d).bind fun _ => t.bind fun b => cond b (e.bind fun y => M.pure (some y)) (M.pure none)) (wipeE ρ vs) (fun z ρ4 => z = r ∧ restE ρ ρ4 vs = ρ) fun _ _ => False := by
    refine w_bind (h.mono (fun _ ρ2 h => w_bind (h.mono (fun b ρ3 h => ?_) fun _ _ h => h)) fun _ _ h => h)
    cases b with
    | true => exact w_bind ((h.1 rfl).mono (fun y ρ4 ⟨h1, h2⟩ => ⟨h1.symm, h2⟩) fun _ _ h => h)
    | false => obtain ⟨h1, h2⟩ := h.2 rfl; exact ⟨h1.symm, h2⟩
  unfold wp at h2
  cases eq : ((g d).bind fun _ => t.bind fun b => cond b (e.bind fun y => M.pure (some y)) (M.pure none)) (wipeE ρ vs) with
  | ok z ρ4 => rw [eq] at h2; obtain ⟨h1, h3⟩ := h2; simp only [h1, h3]
  | exc x ρ4 => rw [eq] at h2; exact h2.elim
  | bad => rw [eq] at h2; exact h2.elim
/-- a turn without a test -/
theorem turn_map {vs : List Nat} {g : D → M Unit} {e : M D} {d r : D} (h : wp (g d) (wipeE ρ vs) (fun _ ρ2 => wp e ρ2 (fun y ρ4 => y = r ∧ restE ρ ρ4 vs = ρ) fun _ _ => False) fun _ _ => False) : M.lcTurn vs g (M.pure true) e d ρ = .ok (some r) ρ :=
  turn_of (h.mono (fun _ ρ2 h => ⟨fun _ => h.mono (fun y ρ4 ⟨a, b⟩ => ⟨by rw [a], b⟩) fun _ _ h => h, nofun⟩) fun _ _ h => h)
theorem w_lcMap {gs : Gd} {turn : D → M (Option D)} {Q : D → Ev → Prop} (xs : List α) (enc : α → D) (f : α → D) (h : ∀ x ∈ xs, turn (enc x) ρ = .ok (some (f x)) ρ) (q : Q (.list (xs.map f)) ρ) (hg : chkG gs ρ = true := by rfl) (hl : xs.length ≤ sizeLine := by decide) : wp (M.lcGo gs turn (xs.map enc) []) ρ Q E := by
  have : ∀ (xs : List α) (acc : List D), (∀ x ∈ xs, turn (enc x) ρ = .ok (some (f x)) ρ) → acc.length + xs.length ≤ sizeLine → M.lcGo gs turn (xs.map enc) acc ρ = .ok (.list (acc ++ xs.map f)) ρ := by
    intro xs
    induction xs with
    | nil => intro acc _ _; unfold M.lcGo; simp [hg]
    | cons x r ih =>
      intro acc h hl
      have hl : acc.length + (r.length + 1) ≤ sizeLine := hl
      simp only [List.map_cons]
      unfold M.lcGo
      rw [hg, h x List.mem_cons_self]
      simp only [cond_true, Oc.bind]
      rw [if_pos (by omega), ih _ (fun x hx => h x (List.mem_cons_of_mem _ hx)) (by simp; omega), List.append_assoc]; rfl
  exact w_ok (by simpa using this xs [] h (by simpa using hl)) q
theorem w_lcFil {gs : Gd} {turn : D → M (Option D)} {Q : D → Ev → Prop} (xs : List α) (enc : α → D) (f : α → Option D) (h : ∀ x ∈ xs, turn (enc x) ρ = .ok (f x) ρ) (q : Q (.list (xs.filterMap f)) ρ) (hg : chkG gs ρ = true := by rfl) (hl : xs.length ≤ sizeLine := by decide) : wp (M.lcGo gs turn (xs.map enc) []) ρ Q E := by
  have : ∀ (xs : List α) (acc : List D), (∀ x ∈ xs, turn (enc x) ρ = .ok (f x) ρ) → acc.length + xs.length ≤ sizeLine → M.lcGo gs turn (xs.map enc) acc ρ = .ok (.list (acc ++ xs.filterMap f)) ρ := by
    intro xs
    induction xs with
    | nil => intro acc _ _; unfold M.lcGo; simp [hg]
    | cons x r ih =>
      intro acc h hl
      have hl : acc.length + (r.length + 1) ≤ sizeLine := hl
      simp only [List.map_cons]
      unfold M.lcGo
      rw [hg, h x List.mem_cons_self]
      simp only [cond_true, Oc.bind]
      cases e : f x with
      | none =>
        simp only []
        rw [ih _ (fun x hx => h x (List.mem_cons_of_mem _ hx)) (by omega), List.filterMap_cons_none e]
      | some y =>
        simp only []
        rw [if_pos (by omega), ih _ (fun x hx => h x (List.mem_cons_of_mem _ hx)) (by simp; omega), List.filterMap_cons_some e, List.append_assoc]; rfl
  exact w_ok (by simpa using this xs [] h (by simpa using hl)) q
/-! statements -/
def kSeq (b : M Fl) (Q : Fl → Ev → Prop) (E : Xc → Ev → Prop) : Fl → Ev → Prop
  | .nx, ρ => wp b ρ Q E
  | fl, ρ => Q fl ρ
theorem k_nx {b : M Fl} {Q : Fl → Ev → Prop} (h : wp b ρ Q E) : kSeq b Q E .nx ρ := h
theorem k_rt {b : M Fl} {Q : Fl → Ev → Prop} {d : D} (h : Q (.rt d) ρ) : kSeq b Q E (.rt d) ρ := h
theorem k_bk {b : M Fl} {Q : Fl → Ev → Prop} (h : Q .bk ρ) : kSeq b Q E .bk ρ := h
theorem k_ct {b : M Fl} {Q : Fl → Ev → Prop} (h : Q .ct ρ) : kSeq b Q E .ct ρ := h
theorem w_seq {a b : M Fl} {Q : Fl → Ev → Prop} (h : wp a ρ (kSeq b Q E) E) : wp (M.seq a b) ρ Q E := w_bind (h.mono (fun fl _ h => by cases fl <;> exact h) fun _ _ h => h)
/-- what holds between -/
def kI (I : Ev → Prop) : Fl → Ev → Prop
  | .nx, ρ => I ρ
  | _, _ => False
theorem ki_nx {I : Ev → Prop} (h : I ρ) : kI I .nx ρ := h
theorem w_seqI {a b : M Fl} {Q : Fl → Ev → Prop} (I : Ev → Prop) (h : wp a ρ (kI I) E) (g : ∀ ρ', I ρ' → wp b ρ' Q E) : wp (M.seq a b) ρ Q E := w_seq (h.mono (fun fl ρ' h => by
  cases fl with
  | nx => exact g ρ' h
  | _ => exact h.elim) fun _ _ h => h)
theorem w_mid {a b : M Fl} {Q : Fl → Ev → Prop} (I : Ev → Prop) (h : wp a ρ (kI I) E) (g : ∀ ρ', I ρ' → wp b ρ' Q E) : wp a ρ (kSeq b Q E) E := h.mono (fun fl ρ' h => by
  cases fl with
  | nx => exact g ρ' h
  | _ => exact h.elim) fun _ _ h => h
theorem kif_mid {a b c : M Fl} {Q : Fl → Ev → Prop} {x : Bool} (I : Ev → Prop) (h : kIf a b (kI I) E x ρ) (g : ∀ ρ', I ρ' → wp c ρ' Q E) : kIf a b (kSeq c Q E) E x ρ := ⟨fun e => w_mid I (h.1 e) g, fun e => w_mid I (h.2 e) g⟩
theorem w_nx {Q : Fl → Ev → Prop} (h : Q .nx ρ) : wp M.nx ρ Q E := h
theorem w_ret {m : M D} {Q : Fl → Ev → Prop} (h : wp m ρ (fun d ρ1 => Q (.rt d) ρ1) E) : wp (M.ret m) ρ Q E := w_bind h
theorem w_exp {m : M D} {Q : Fl → Ev → Prop} (h : wp m ρ (fun _ ρ1 => Q .nx ρ1) E) : wp (M.exp m) ρ Q E := w_bind h
theorem w_asg {i : Nat} {m : M D} {Q : Fl → Ev → Prop} (h : wp m ρ (fun d ρ1 => Q .nx (ρ1.set i (some d))) E) : wp (M.asg i m) ρ Q E := w_bind h
def kO (i : Nat) (Q : Fl → Ev → Prop) (d : D) (ρ : Ev) : Prop := ∃ ds, d = .list ds ∧ Q .nx (ρ.set i (some (.list ds)))
theorem k_o {i : Nat} {Q : Fl → Ev → Prop} {ds : List D} (h : Q .nx (ρ.set i (some (.list ds)))) : kO i Q (.list ds) ρ := ⟨ds, rfl, h⟩
theorem w_asgO {i : Nat} {m : M D} {Q : Fl → Ev → Prop} (h : wp m ρ (kO i Q) E) : wp (M.asgO i m) ρ Q E := w_bind (h.mono (fun d _ ⟨ds, e, h⟩ => by subst e; exact h) fun _ _ h => h)
theorem w_asgT {g : D → M Unit} {m : M D} {Q : Fl → Ev → Prop} (h : wp m ρ (fun d ρ1 => wp (g d) ρ1 (fun _ ρ2 => Q .nx ρ2) E) E) : wp (M.asgT g m) ρ Q E := w_bind (h.mono (fun _ _ h => w_bind h) fun _ _ h => h)
theorem w_aug {i : Nat} {g : D → D → Option D} {m : M D} {Q : Fl → Ev → Prop} (h : wp (M.get i) ρ (fun d ρ1 => wp m ρ1 (fun f ρ2 => wp (M.lift (g d f)) ρ2 (fun z ρ3 => Q .nx (ρ3.set i (some z))) E) E) E) : wp (M.aug i g m) ρ Q E :=
  w_bind (h.mono (fun _ _ h => w_bind (h.mono (fun _ _ h => w_bind h) fun _ _ h => h)) fun _ _ h => h)
theorem w_par {o1 o2 : Bool} {i j : Nat} {a b : M D} {Q : Fl → Ev → Prop} (h : wp a ρ (fun d ρ1 => wp b ρ1 (fun f ρ2 => wp (cond o1 (M.setO i d) (M.setD i d)) ρ2 (fun _ ρ3 => wp (cond o2 (M.setO j f) (M.setD j f)) ρ3 (fun _ ρ4 => Q .nx ρ4) E) E) E) E) : wp (M.par o1 o2 i j a b) ρ Q E :=
  w_bind (h.mono (fun _ _ h => w_bind (h.mono (fun _ _ h => w_bind (w_bind h)) fun _ _ h => h)) fun _ _ h => h)
theorem w_putIx {j : Nat} {ds : List D} {k : Int} {n : Nat} {v : D} {Q : Unit → Ev → Prop} (e : ρ[j]? = some (some (.list ds))) (en : ixN ds.length k = some n) (h : Q () (ρ.set j (some (.list (ds.set n v))))) : wp (M.putIx j (.int k) v) ρ Q E := by
  refine w_bind (w_get e ?_)
  simp only [en]
  exact h
theorem w_setIx {j : Nat} {mv mi : M D} {Q : Fl → Ev → Prop} (h : wp mv ρ (fun v ρ1 => wp (M.get j) ρ1 (fun _ ρ2 => wp mi ρ2 (fun i ρ3 => wp (M.putIx j i v) ρ3 (fun _ ρ4 => Q .nx ρ4) E) E) E) E) : wp (M.setIx j mv mi) ρ Q E :=
  w_bind (h.mono (fun _ _ h => w_bind (h.mono (fun _ _ h => w_bind (h.mono (fun _ _ h => w_bind h) fun _ _ h => h)) fun _ _ h => h)) fun _ _ h => h)
theorem w_raise {x : Xc} {Q : Fl → Ev → Prop} (h : E x ρ) : wp (M.raise x) ρ Q E := h
theorem w_raise1 {x fld : Str} {m : M D} {Q : Fl → Ev → Prop} (h : wp m ρ (fun d ρ1 => E ⟨x, some (fld, d)⟩ ρ1) E) : wp (M.raise1 x fld m) ρ Q E := w_bind h
theorem w_tryE {H : List (Str × List Str)} {b : M Fl} {hs : List Hd} {Q : Fl → Ev → Prop} (h : wp b ρ Q (fun x ρ1 => (M.hdl H hs x ρ1).wp Q E)) : wp (M.tryE H b hs) ρ Q E := by
  unfold wp M.tryE
  unfold wp at h
  cases e : b ρ with
  | ok a ρ1 => rw [e] at h; exact h
  | exc x ρ1 => rw [e] at h; exact h
  | bad => rw [e] at h; exact h
def kFor (I : Ev → Prop) (Q : Fl → Ev → Prop) : Fl → Ev → Prop
  | .nx, ρ => I ρ
  | .ct, ρ => I ρ
  | .bk, ρ => Q .nx ρ
  | .rt v, ρ => Q (.rt v) ρ
theorem kf_nx {I : Ev → Prop} {Q : Fl → Ev → Prop} (h : I ρ) : kFor I Q .nx ρ := h
theorem kf_ct {I : Ev → Prop} {Q : Fl → Ev → Prop} (h : I ρ) : kFor I Q .ct ρ := h
theorem kf_bk {I : Ev → Prop} {Q : Fl → Ev → Prop} (h : Q .nx ρ) : kFor I Q .bk ρ := h
theorem kf_rt {I : Ev → Prop} {Q : Fl → Ev → Prop} {v : D} (h : Q (.rt v) ρ) : kFor I Q (.rt v) ρ := h
theorem w_for {it : M (List D × Gd)} {tg : D → M Unit} {b : M Fl} {Q : Fl → Ev → Prop} (h : wp it ρ (fun p ρ1 => wp (M.forGo p.2 tg b p.1) ρ1 Q E) E) : wp (M.for it tg b) ρ Q E := w_bind h
/-- a loop by what holds ahead of each turn -/
theorem w_forGo {gs : Gd} {tg : D → M Unit} {b : M Fl} {Q : Fl → Ev → Prop} (I : List α → List α → Ev → Prop) (xs : List α) (enc : α → D) (h0 : I [] xs ρ) (hc : ∀ pre post ρ, I pre post ρ → chkG gs ρ = true)
    (hs : ∀ pre x post ρ, xs = pre ++ x :: post → I pre (x :: post) ρ → wp (tg (enc x)) ρ (fun _ ρ1 => wp b ρ1 (kFor (I (pre ++ [x]) post) Q) E) E) (hd : ∀ ρ, I xs [] ρ → Q .nx ρ) : wp (M.forGo gs tg b (xs.map enc)) ρ Q E := by
  have : ∀ (post pre : List α) (ρ : Ev), xs = pre ++ post → I pre post ρ → wp (M.forGo gs tg b (post.map enc)) ρ Q E := by
    intro post
    induction post with
    | nil =>
      intro pre ρ e h
      rw [List.append_nil] at e
      subst e
      unfold wp
      simp only [List.map_nil, M.forGo, hc _ _ _ h, cond_true]
      exact hd ρ h
    | cons x r ih =>
      intro pre ρ e h
      have q := hs pre x r ρ e h
      unfold wp
      simp only [List.map_cons, M.forGo, hc _ _ _ h, cond_true]
      refine w_bind (q.mono (fun _ ρ1 q => w_bind (q.mono (fun fl ρ2 q => ?_) fun _ _ q => q)) fun _ _ q => q)
      cases fl with
      | nx => exact ih (pre ++ [x]) ρ2 (by rw [e, List.append_assoc]; rfl) q
      | ct => exact ih (pre ++ [x]) ρ2 (by rw [e, List.append_assoc]; rfl) q
      | bk => exact q
      | rt v => exact q
  exact this xs [] ρ rfl h0
def kWh (I : Ev → Prop) (Q : Fl → Ev → Prop) : Fl → Ev → Prop := kFor I Q
/-- a while by a number that falls -/
theorem w_whl {t : M Bool} {b : M Fl} {Q : Fl → Ev → Prop} (I : Nat → Ev → Prop) (hs : ∀ k ρ, I k ρ → wp t ρ (fun x ρ1 => (x = true → wp b ρ1 (kFor (fun ρ2 => ∃ j, j < k ∧ I j ρ2) Q) E) ∧ (x = false → Q .nx ρ1)) E) : ∀ {n k : Nat} {ρ : Ev}, I k ρ → k < n → wp (M.whl t b n) ρ Q E := by
  intro n
  induction n with
  | zero => intro k ρ _ h; omega
  | succ n ih =>
    intro k ρ h hk
    unfold M.whl
    refine w_bind ((hs k ρ h).mono (fun x ρ1 q => ?_) fun _ _ q => q)
    cases x with
    | false => exact q.2 rfl
    | true =>
      refine w_bind ((q.1 rfl).mono (fun fl ρ2 q => ?_) fun _ _ q => q)
      cases fl with
      | nx => obtain ⟨j, hj, q⟩ := q; exact ih q (by omega)
      | ct => obtain ⟨j, hj, q⟩ := q; exact ih q (by omega)
      | bk => exact q
      | rt v => exact q
/-- the slots at a call -/
def nones : Nat → Ev
  | 0 => []
  | k + 1 => none :: nones k
def ini : List D → Nat → Ev
  | [], k => nones k
  | d :: ds, k => some d :: ini ds k
theorem nones_eq : ∀ k : Nat, nones k = List.replicate k none
  | 0 => rfl
  | k + 1 => by unfold nones; rw [nones_eq k]; rfl
theorem ini_eq : ∀ (ds : List D) (k : Nat), ini ds k = ds.map some ++ List.replicate k none
  | [], k => nones_eq k
  | d :: ds, k => by unfold ini; rw [ini_eq ds k]; rfl
def kEnd (ios : List Nat) (Q : D → Ev → Prop) : Fl → Ev → Prop
  | .rt d, ρ => liveL ios ρ = true ∧ Q d ρ
  | .nx, ρ => liveL ios ρ = true ∧ Q .none ρ
  | _, _ => False
theorem ke_rt {ios : List Nat} {Q : D → Ev → Prop} {d : D} (l : liveL ios ρ = true) (h : Q d ρ) : kEnd ios Q (.rt d) ρ := ⟨l, h⟩
theorem ke_nx {ios : List Nat} {Q : D → Ev → Prop} (l : liveL ios ρ = true) (h : Q .none ρ) : kEnd ios Q .nx ρ := ⟨l, h⟩
theorem ke_rt0 {Q : D → Ev → Prop} {d : D} (h : Q d ρ) : kEnd [] Q (.rt d) ρ := ⟨rfl, h⟩
theorem ke_nx0 {Q : D → Ev → Prop} (h : Q .none ρ) : kEnd [] Q .nx ρ := ⟨rfl, h⟩
theorem w_run {N n : Nat} {ios : List Nat} {m : M Fl} {ds : List D} {Q : D → Ev → Prop} (hn : (ds.length == n) = true) (h : wp m (ini ds (N - n)) (kEnd ios Q) (fun x ρ' => liveL ios ρ' = true ∧ E x ρ')) : (runD N n ios m ds).wp Q E := by
  unfold runD
  rw [hn, ← ini_eq]
  simp only [cond_true]
  unfold wp at h
  cases e : m (ini ds (N - n)) with
  | ok fl ρ' =>
    rw [e] at h
    cases fl with
    | rt d => unfold endD; simp only; rw [show liveL ios ρ' = true from h.1]; exact h.2
    | nx => unfold endD; simp only; rw [show liveL ios ρ' = true from h.1]; exact h.2
    | bk => exact h.elim
    | ct => exact h.elim
  | exc x ρ' => rw [e] at h; unfold endD; simp only; rw [h.1]; exact h.2
  | bad => rw [e] at h; exact h.elim
end
end Cr
end
section
set_option Elab.async false
set_option linter.all false
set_option maxRecDepth 100000
set_option maxHeartbeats 4000000
namespace Cr
open PySem PySem.Spec L2
set_option autoImplicit false
/-! ### operations on texts told by their codes -/
theorem mk_inj {a b : List Nat} : mk a = mk b ↔ a = b := by
  constructor
  · intro h
    have := congrArg (fun z : Str => z.cps.toList) h
    simpa [mk] using this
  · intro h; rw [h]
theorem mk_len (a : List Nat) : (mk a).length = a.length := by simp [mk, Str.length]
theorem mk_app (a b : List Nat) : mk a ++ mk b = mk (a ++ b) := by
  show Str.append (mk a) (mk b) = _
  simp [mk, Str.append]
theorem mk_cut (l : List Nat) (lo hi : Option Int) : cutS (mk l) lo hi = mk (cutD l lo hi) := by
  unfold cutS cutD mk
  simp [Str.length]
theorem mk_dec (a b : List Nat) : decide (mk a = mk b) = decide (a = b) := by
  rw [Bool.eq_iff_iff]; simp [mk_inj]
theorem mk_surj (z : Str) : ∃ l, z = mk l := ⟨z.cps.toList, by simp [mk]⟩
def isIntD : D → Bool
  | .int _ => true
  | .bool _ => true
  | _ => false
def isBoolD : D → Bool
  | .bool _ => true
  | _ => false
def isStrD : D → Bool
  | .str _ => true
  | _ => false
def isListD : D → Bool
  | .list _ => true
  | .dict kvs => isScr kvs
  | _ => false
def isTupD : D → Bool
  | .tuple _ => true
  | _ => false
theorem ty_int (d : D) : isTy "int" d = isIntD d := by
  cases d with
  | dict kvs => simp only [isTy, isIntD]; cases isScr kvs <;> decide
  | _ => simp only [isTy, isIntD] <;> decide
theorem ty_bool (d : D) : isTy "bool" d = isBoolD d := by
  cases d with
  | dict kvs => simp only [isTy, isBoolD]; cases isScr kvs <;> decide
  | _ => simp only [isTy, isBoolD] <;> decide
theorem ty_str (d : D) : isTy "str" d = isStrD d := by
  cases d with
  | dict kvs => simp only [isTy, isStrD]; cases isScr kvs <;> decide
  | _ => simp only [isTy, isStrD] <;> decide
theorem ty_list (d : D) : isTy "list" d = isListD d := by
  cases d with
  | dict kvs => simp only [isTy, isListD]; cases isScr kvs <;> decide
  | _ => simp only [isTy, isListD] <;> decide
theorem ty_tup (d : D) : isTy "tuple" d = isTupD d := by
  cases d with
  | dict kvs => simp only [isTy, isTupD]; cases isScr kvs <;> decide
  | _ => simp only [isTy, isTupD] <;> decide
section
variable {ρ : Ev} {E : Xc → Ev → Prop}
theorem w_isiI {a : M D} {Q : D → Ev → Prop} (h : wp a ρ (fun d ρ1 => Q (.bool (isIntD d)) ρ1) E) : wp (M.isi "int" a) ρ Q E := w_isi (by simp only [ty_int]; exact h)
theorem w_isiB {a : M D} {Q : D → Ev → Prop} (h : wp a ρ (fun d ρ1 => Q (.bool (isBoolD d)) ρ1) E) : wp (M.isi "bool" a) ρ Q E := w_isi (by simp only [ty_bool]; exact h)
theorem w_isiS {a : M D} {Q : D → Ev → Prop} (h : wp a ρ (fun d ρ1 => Q (.bool (isStrD d)) ρ1) E) : wp (M.isi "str" a) ρ Q E := w_isi (by simp only [ty_str]; exact h)
theorem w_isiL {a : M D} {Q : D → Ev → Prop} (h : wp a ρ (fun d ρ1 => Q (.bool (isListD d)) ρ1) E) : wp (M.isi "list" a) ρ Q E := w_isi (by simp only [ty_list]; exact h)
theorem w_isiT {a : M D} {Q : D → Ev → Prop} (h : wp a ρ (fun d ρ1 => Q (.bool (isTupD d)) ρ1) E) : wp (M.isi "tuple" a) ρ Q E := w_isi (by simp only [ty_tup]; exact h)
theorem k_t' {α : Type} {a b : M α} {Q : α → Ev → Prop} {x : Bool} (e : x = true) (h : wp a ρ Q E) : kIf a b Q E x ρ := by subst e; exact k_t h
theorem k_f' {α : Type} {a b : M α} {Q : α → Ev → Prop} {x : Bool} (e : x = false) (h : wp b ρ Q E) : kIf a b Q E x ρ := by subst e; exact k_f h
/-! ints -/
theorem o_add {i j : Int} {Q : D → Ev → Prop} (h : Q (.int (i + j)) ρ) : wp (M.lift (dAdd (.int i) (.int j))) ρ Q E := h
theorem o_iadd {i j : Int} {Q : D → Ev → Prop} (h : Q (.int (i + j)) ρ) : wp (M.lift (dIAdd (.int i) (.int j))) ρ Q E := h
theorem o_sub {i j : Int} {Q : D → Ev → Prop} (h : Q (.int (i - j)) ρ) : wp (M.lift (dSub (.int i) (.int j))) ρ Q E := h
theorem o_mul {i j : Int} {Q : D → Ev → Prop} (e : mulOk i j = true) (h : Q (.int (i * j)) ρ) : wp (M.lift (dMul (.int i) (.int j))) ρ Q E := w_lift (if_pos e) h
theorem mulOk_r {i j : Int} (h : -(2 ^ 64) < j ∧ j < 2 ^ 64) : mulOk i j = true := by
  unfold mulOk
  rw [decide_eq_true h]; simp
theorem mulOk_l {i j : Int} (h : -(2 ^ 64) < i ∧ i < 2 ^ 64) : mulOk i j = true := by
  unfold mulOk
  rw [decide_eq_true h]; simp
theorem o_div {i j : Int} {Q : D → Ev → Prop} (e : 0 < j ∧ j.natAbs.log2 < 9000) (h : Q (.int (i / j)) ρ) : wp (M.lift (dDiv (.int i) (.int j))) ρ Q E := w_lift (if_pos e) h
theorem log2_small {n : Nat} (h : n < 1000000) : n.log2 < 9000 := by
  have : n.log2 ≤ n := Nat.log2_le_self n
  by_cases h0 : n = 0
  · subst h0; decide
  · have h1 := Nat.log2_self_le h0
    have h2 : n.log2 < 20 := by
      rcases Nat.lt_or_ge n.log2 20 with h | h
      · exact h
      · have := Nat.pow_le_pow_right (n := 2) (by decide) h
        omega
    omega
theorem o_div2 {i j : Int} {Q : D → Ev → Prop} (e : 0 < j ∧ j < 1000000) (h : Q (.int (i / j)) ρ) : wp (M.lift (dDiv (.int i) (.int j))) ρ Q E := o_div ⟨e.1, log2_small (by omega)⟩ h
theorem o_mod {i j : Int} {Q : D → Ev → Prop} (e : 0 < j) (h : Q (.int (i % j)) ρ) : wp (M.lift (dMod (.int i) (.int j))) ρ Q E := w_lift (if_pos e) h
theorem o_pow {i j : Int} {Q : D → Ev → Prop} (e : 0 ≤ j ∧ j ≤ 1000000 ∧ i.natAbs < 2 ^ 64) (h : Q (.int (i ^ j.toNat)) ρ) : wp (M.lift (dPow (.int i) (.int j))) ρ Q E := w_lift (if_pos e) h
theorem o_neg {i : Int} {Q : D → Ev → Prop} (h : Q (.int (-i)) ρ) : wp (M.lift (dNeg (.int i))) ρ Q E := h
theorem o_lt {i j : Int} {Q : D → Ev → Prop} (h : Q (.bool (decide (i < j))) ρ) : wp (M.lift (dLt (.int i) (.int j))) ρ Q E := h
theorem o_le {i j : Int} {Q : D → Ev → Prop} (h : Q (.bool (decide (i ≤ j))) ρ) : wp (M.lift (dLe (.int i) (.int j))) ρ Q E := h
theorem o_gt {i j : Int} {Q : D → Ev → Prop} (h : Q (.bool (decide (j < i))) ρ) : wp (M.lift (dGt (.int i) (.int j))) ρ Q E := h
theorem o_ge {i j : Int} {Q : D → Ev → Prop} (h : Q (.bool (decide (j ≤ i))) ρ) : wp (M.lift (dGe (.int i) (.int j))) ρ Q E := h
theorem eqv_i (i j : Int) : PyData.eqv (.int i) (.int j) = decide (i = j) := by
  simp only [PyData.eqv]; rw [Bool.eq_iff_iff]; simp
theorem o_eqI {i j : Int} {Q : D → Ev → Prop} (h : Q (.bool (decide (i = j))) ρ) : wp (M.lift (dEq (.int i) (.int j))) ρ Q E := by
  refine w_lift (a := .bool (decide (i = j))) ?_ h
  show dEq0 _ _ = _
  unfold dEq0
  rw [if_pos ⟨rfl, rfl⟩, eqv_i]
theorem o_neI {i j : Int} {Q : D → Ev → Prop} (h : Q (.bool (!decide (i = j))) ρ) : wp (M.lift (dNe (.int i) (.int j))) ρ Q E := by
  refine w_lift (a := .bool (!decide (i = j))) ?_ h
  show dNe0 _ _ = _
  unfold dNe0
  rw [if_pos ⟨rfl, rfl⟩, eqv_i]
theorem o_int {i : Int} {Q : D → Ev → Prop} (h : Q (.int i) ρ) : wp (M.lift (dInt [.int i])) ρ Q E := h
theorem o_abs {i : Int} {Q : D → Ev → Prop} (h : Q (.int (if i < 0 then -i else i)) ρ) : wp (M.lift (dAbs [.int i])) ρ Q E := h
theorem o_isN {d : D} {Q : D → Ev → Prop} (h : Q (.bool (isN d)) ρ) : wp (M.lift (dIs d .none)) ρ Q E := by cases d <;> exact h
theorem o_isNotN {d : D} {Q : D → Ev → Prop} (h : Q (.bool (!isN d)) ρ) : wp (M.lift (dIsNot d .none)) ρ Q E := by cases d <;> exact h
theorem o_isB {a b : Bool} {Q : D → Ev → Prop} (h : Q (.bool (a == b)) ρ) : wp (M.lift (dIs (.bool a) (.bool b))) ρ Q E := h
theorem o_isNotB {a b : Bool} {Q : D → Ev → Prop} (h : Q (.bool (!(a == b))) ρ) : wp (M.lift (dIsNot (.bool a) (.bool b))) ρ Q E := h
/-! texts -/
theorem o_addS {a b : List Nat} {Q : D → Ev → Prop} (e : a.length + b.length ≤ sizeLine) (h : Q (.str (mk (a ++ b))) ρ) : wp (M.lift (dAdd (.str (mk a)) (.str (mk b)))) ρ Q E := by
  refine w_lift (a := .str (mk (a ++ b))) ?_ h
  unfold dAdd; rw [← mk_app]; exact if_pos (by rw [mk_len, mk_len]; exact e)
theorem o_iaddS {a b : List Nat} {Q : D → Ev → Prop} (e : a.length + b.length ≤ sizeLine) (h : Q (.str (mk (a ++ b))) ρ) : wp (M.lift (dIAdd (.str (mk a)) (.str (mk b)))) ρ Q E := by
  refine w_lift (a := .str (mk (a ++ b))) ?_ h
  unfold dIAdd; rw [← mk_app]; exact if_pos (by rw [mk_len, mk_len]; exact e)
theorem o_mulS {a : List Nat} {n : Int} {Q : D → Ev → Prop} (e : n < 1000000000 ∧ -1000000000 < n ∧ a.length * n.toNat ≤ sizeLine) (h : Q (.str (mk (List.replicate n.toNat a).flatten)) ρ) : wp (M.lift (dMul (.str (mk a)) (.int n))) ρ Q E := by
  refine w_lift (a := .str (mk (List.replicate n.toNat a).flatten)) ?_ h
  unfold dMul
  simp only [mk_len]
  rw [if_pos e]
  simp [strRep, mk]
theorem o_addL {a b : List D} {Q : D → Ev → Prop} (e : a.length + b.length ≤ sizeLine) (h : Q (.list (a ++ b)) ρ) : wp (M.lift (dAdd (.list a) (.list b))) ρ Q E := w_lift (if_pos e) h
theorem o_addT {a b : List D} {Q : D → Ev → Prop} (e : a.length + b.length ≤ sizeLine) (h : Q (.tuple (a ++ b)) ρ) : wp (M.lift (dAdd (.tuple a) (.tuple b))) ρ Q E := w_lift (if_pos e) h
theorem o_mulL {a : List D} {n : Int} {Q : D → Ev → Prop} (e : n < 1000000000 ∧ -1000000000 < n ∧ a.length * n.toNat ≤ sizeLine) (h : Q (.list (List.replicate n.toNat a).flatten) ρ) : wp (M.lift (dMul (.list a) (.int n))) ρ Q E := w_lift (if_pos e) h
theorem o_mulT {a : List D} {n : Int} {Q : D → Ev → Prop} (e : a ≠ [] ∧ 2 ≤ n ∧ n ≤ 1000 ∧ a.length ≤ 1000) (h : Q (.tuple (List.replicate n.toNat a).flatten) ρ) : wp (M.lift (dMul (.tuple a) (.int n))) ρ Q E := w_lift (if_pos e) h
theorem o_eqS {a b : List Nat} {Q : D → Ev → Prop} (h : Q (.bool (decide (a = b))) ρ) : wp (M.lift (dEq (.str (mk a)) (.str (mk b)))) ρ Q E := by
  refine w_lift (a := .bool (decide (mk a = mk b))) rfl ?_
  rw [mk_dec]; exact h
theorem o_neS {a b : List Nat} {Q : D → Ev → Prop} (h : Q (.bool (!decide (a = b))) ρ) : wp (M.lift (dNe (.str (mk a)) (.str (mk b)))) ρ Q E := by
  refine w_lift (a := .bool (!decide (mk a = mk b))) rfl ?_
  rw [mk_dec]; exact h
theorem strIn_one (c : Nat) (l : List Nat) : strIn (mk [c]) (mk l) = decide (c ∈ l) := by
  refine (StrLaws.found_one (mk l) c).trans ?_
  rw [Bool.eq_iff_iff, decide_eq_true_iff, decide_eq_true_iff]
  simp [mk]
theorem o_inC {c : Nat} {l : List Nat} {Q : D → Ev → Prop} (h : Q (.bool (decide (c ∈ l))) ρ) : wp (M.lift (dIn (.str (mk [c])) (.str (mk l)))) ρ Q E := by
  refine w_lift (a := .bool (strIn (mk [c]) (mk l))) rfl ?_
  rw [strIn_one]; exact h
theorem o_niC {c : Nat} {l : List Nat} {Q : D → Ev → Prop} (h : Q (.bool (!decide (c ∈ l))) ρ) : wp (M.lift (dNi (.str (mk [c])) (.str (mk l)))) ρ Q E := by
  refine w_lift (a := .bool (!strIn (mk [c]) (mk l))) rfl ?_
  rw [strIn_one]; exact h
theorem o_lenS {l : List Nat} {Q : D → Ev → Prop} (e : l.length ≤ sizeLine) (h : Q (.int l.length) ρ) : wp (M.lift (dLen [.str (mk l)])) ρ Q E := by
  refine w_lift (a := .int l.length) ?_ h
  unfold dLen; simp only [mk_len]; exact if_pos e
theorem o_lenL {l : List D} {Q : D → Ev → Prop} (h : Q (.int l.length) ρ) : wp (M.lift (dLen [.list l])) ρ Q E := h
theorem o_lenT {l : List D} {Q : D → Ev → Prop} (h : Q (.int l.length) ρ) : wp (M.lift (dLen [.tuple l])) ρ Q E := h
theorem o_ord {c : Nat} {Q : D → Ev → Prop} (h : Q (.int c) ρ) : wp (M.lift (dOrd [.str (mk [c])])) ρ Q E := h
theorem o_ixL {l : List D} {i : Int} {d : D} {Q : D → Ev → Prop} (e : L2.atI l i = some d) (h : Q d ρ) : wp (M.lift (dIx (.list l) (.int i))) ρ Q E := w_lift e h
theorem o_ixT {l : List D} {i : Int} {d : D} {Q : D → Ev → Prop} (e : L2.atI l i = some d) (h : Q d ρ) : wp (M.lift (dIx (.tuple l) (.int i))) ρ Q E := w_lift e h
theorem o_ixS {l : List Nat} {i : Int} {c : Nat} {Q : D → Ev → Prop} (el : l.length ≤ sizeLine) (e : L2.atI l i = some c) (h : Q (.str (mk [c])) ρ) : wp (M.lift (dIx (.str (mk l)) (.int i))) ρ Q E := by
  refine w_lift (a := .str (mk [c])) ?_ h
  show (if (mk l).length ≤ sizeLine then (L2.atI (mk l).cps.toList i).map fun n => (.str ⟨#[n]⟩ : D) else none) = _
  rw [mk_len, if_pos el, show (mk l).cps.toList = l by simp [mk], e]; rfl
theorem atI_nn {α : Type} {l : List α} {i : Int} (h0 : 0 ≤ i) : L2.atI l i = l[i.toNat]? := by
  unfold L2.atI L2.ixN
  rw [if_pos h0]
  by_cases h : i < l.length
  · rw [if_pos h]; rfl
  · rw [if_neg h, List.getElem?_eq_none (by omega)]; rfl
theorem atI_last {α : Type} {l : List α} {i : Int} (h0 : i < 0) (h1 : -(l.length : Int) ≤ i) : L2.atI l i = l[(i + l.length).toNat]? := by
  unfold L2.atI L2.ixN
  rw [if_neg (by omega), if_pos h1]; rfl
theorem ixN_nat {n : Nat} {i : Int} (h0 : 0 ≤ i) (h : i < n) : ixN n i = some i.toNat := by
  unfold ixN
  rw [if_pos h0, if_pos h]
theorem o_cutS {l : List Nat} {lo hi : Option Int} {Q : D → Ev → Prop} (e : l.length ≤ sizeLine) (h : Q (.str (mk (cutD l lo hi))) ρ) : wp (M.lift (dCut lo hi (.str (mk l)))) ρ Q E := by
  refine w_lift (a := .str (mk (cutD l lo hi))) ?_ h
  show (if (mk l).length ≤ sizeLine then some (.str (cutS (mk l) lo hi) : D) else none) = _
  rw [← mk_cut, mk_len]; exact if_pos e
theorem o_cutL {l : List D} {lo hi : Option Int} {Q : D → Ev → Prop} (h : Q (.list (cutD l lo hi)) ρ) : wp (M.lift (dCut lo hi (.list l))) ρ Q E := h
theorem o_cutT {l : List D} {lo hi : Option Int} {Q : D → Ev → Prop} (h : Q (.tuple (cutD l lo hi)) ρ) : wp (M.lift (dCut lo hi (.tuple l))) ρ Q E := h
theorem o_cutX {l : List D} {lo hi : Option Int} {Q : D → Ev → Prop} (h : Q (.list (cutD l lo hi)) ρ) : wp (M.lift (dCut lo hi (.dict [(.none, .list l)]))) ρ Q E := h
theorem take_all {α : Type} {l : List α} {j : Nat} (h : l.length ≤ j) : l.take j = l := List.take_of_length_le h
/-- a cut by places told as naturals -/
theorem cut_nn {α : Type} (l : List α) (i j : Nat) : cutD l (some (i : Int)) (some (j : Int)) = (l.take j).drop i := by
  unfold cutD
  rw [HT.sIx_nat, HT.sIx_nat, List.drop_take]
  by_cases hi : i ≤ l.length
  · rw [Nat.min_eq_left hi]
    by_cases hj : j ≤ l.length
    · rw [Nat.min_eq_left hj]
    · rw [show min j l.length = l.length by omega, take_all (by rw [List.length_drop]; omega), take_all (by rw [List.length_drop]; omega)]
  · rw [show min i l.length = l.length by omega, List.drop_eq_nil_of_le (Nat.le_refl _), List.drop_eq_nil_of_le (by omega), List.take_nil, List.take_nil]
theorem cut_n0 {α : Type} (l : List α) (i : Nat) : cutD l (some (i : Int)) none = l.drop i := by
  unfold cutD
  rw [HT.sIx_nat, HT.sIx_none]
  by_cases h : i ≤ l.length
  · rw [Nat.min_eq_left h, take_all (by rw [List.length_drop]; omega)]
  · rw [show min i l.length = l.length by omega, List.drop_eq_nil_of_le (Nat.le_refl _), List.drop_eq_nil_of_le (by omega), List.take_nil]
theorem cut_0n {α : Type} (l : List α) (j : Nat) : cutD l none (some (j : Int)) = l.take j := by
  unfold cutD
  rw [HT.sIx_nat, HT.sIx_none, Nat.sub_zero, List.drop_zero]
  by_cases hj : j ≤ l.length
  · rw [Nat.min_eq_left hj]
  · rw [show min j l.length = l.length by omega, take_all (Nat.le_refl _), take_all (by omega)]
theorem cut_ii {α : Type} (l : List α) {i j : Int} (hi : 0 ≤ i) (hj : 0 ≤ j) : cutD l (some i) (some j) = (l.take j.toNat).drop i.toNat := by
  have := cut_nn l i.toNat j.toNat
  rwa [Int.toNat_of_nonneg hi, Int.toNat_of_nonneg hj] at this
theorem cut_i0 {α : Type} (l : List α) {i : Int} (hi : 0 ≤ i) : cutD l (some i) none = l.drop i.toNat := by
  have := cut_n0 l i.toNat
  rwa [Int.toNat_of_nonneg hi] at this
theorem cut_0i {α : Type} (l : List α) {j : Int} (hj : 0 ≤ j) : cutD l none (some j) = l.take j.toNat := by
  have := cut_0n l j.toNat
  rwa [Int.toNat_of_nonneg hj] at this
/-! lists, tuples -/
theorem o_tup {ds : List D} {Q : D → Ev → Prop} (e : ds.length ≤ sizeLine) (h : Q (.tuple ds) ρ) : wp (M.lift (dTup ds)) ρ Q E := w_lift (if_pos e) h
theorem o_lst {ds : List D} {Q : D → Ev → Prop} (e : ds.length ≤ sizeLine) (h : Q (.list ds) ρ) : wp (M.lift (dLst ds)) ρ Q E := w_lift (if_pos e) h
theorem o_tuple {ds : List D} {Q : D → Ev → Prop} (h : Q (.tuple ds) ρ) : wp (M.lift (dTuple [.list ds])) ρ Q E := h
theorem o_tuple2 {ds : List D} {Q : D → Ev → Prop} (h : Q (.tuple ds) ρ) : wp (M.lift (dTuple [.tuple ds])) ρ Q E := h
theorem o_list {ds : List D} {Q : D → Ev → Prop} (h : Q (.list ds) ρ) : wp (M.lift (dList [.tuple ds])) ρ Q E := h
theorem o_list2 {ds : List D} {Q : D → Ev → Prop} (h : Q (.list ds) ρ) : wp (M.lift (dList [.list ds])) ρ Q E := h
theorem bools_map {α : Type} (p : α → Bool) : ∀ xs : List α, bools (xs.map fun x => .bool (p x)) = some (xs.map p)
  | [] => rfl
  | x :: xs => by simp only [List.map_cons, bools, bools_map p xs, Option.map_some]
theorem o_all {α : Type} {p : α → Bool} {xs : List α} {Q : D → Ev → Prop} (h : Q (.bool (xs.all p)) ρ) : wp (M.lift (dAll [.list (xs.map fun x => .bool (p x))])) ρ Q E := by
  refine w_lift (a := .bool (xs.all p)) ?_ h
  unfold dAll
  simp only [bools_map, Option.map_some, List.all_map]; rfl
theorem o_any {α : Type} {p : α → Bool} {xs : List α} {Q : D → Ev → Prop} (h : Q (.bool (xs.any p)) ρ) : wp (M.lift (dAny [.list (xs.map fun x => .bool (p x))])) ρ Q E := by
  refine w_lift (a := .bool (xs.any p)) ?_ h
  unfold dAny
  simp only [bools_map, Option.map_some, List.any_map]; rfl
theorem ty_s {z : Str} {P : Prop} (h : P) : tyD "str" (.str z) = true ∧ P := ⟨(by show ((_ : String) == _) = true; decide), h⟩
theorem ty_l {ds : List D} {P : Prop} (h : P) : tyD "list" (.list ds) = true ∧ P := ⟨(by show ((_ : String) == _) = true; decide), h⟩
theorem o_rg1 {j : Int} {Q : List D × Gd → Ev → Prop} (e : smallI j = true) (h : Q ((List.range j.toNat).map fun (i : Nat) => .int (i : Int), []) ρ) : wp (M.lift (dRg1 [.int j])) ρ Q E := by
  refine w_lift (a := (rgD 0 1 j.toNat, [])) (if_pos e) ?_
  have : rgD 0 1 j.toNat = (List.range j.toNat).map fun (i : Nat) => (.int (i : Int) : D) := by
    unfold rgD
    refine List.map_congr_left fun i _ => ?_
    congr 1; omega
  rw [this]; exact h
theorem o_rg2 {i j : Int} {Q : List D × Gd → Ev → Prop} (e : smallI i = true ∧ smallI j = true) (h : Q ((List.range (j - i).toNat).map fun (k : Nat) => .int (i + k), []) ρ) : wp (M.lift (dRg2 [.int i, .int j])) ρ Q E := by
  refine w_lift (a := (rgD i 1 (j - i).toNat, [])) (if_pos e) ?_
  have : rgD i 1 (j - i).toNat = (List.range (j - i).toNat).map fun (k : Nat) => (.int (i + k) : D) := by
    unfold rgD
    refine List.map_congr_left fun k _ => ?_
    congr 1; omega
  rw [this]; exact h
theorem o_rg3 {i j c : Int} {Q : List D × Gd → Ev → Prop} (e : smallI i = true ∧ smallI j = true ∧ 0 < c ∧ c < 1000000) (h : Q ((List.range (cnt i j c)).map fun (k : Nat) => .int (i + k * c), []) ρ) : wp (M.lift (dRg3 [.int i, .int j, .int c])) ρ Q E := w_lift (if_pos e) h
theorem smallI_of {i : Int} (h : -1000000000 ≤ i ∧ i < 1000000000) : smallI i = true := decide_eq_true (by omega)
theorem strsD_map {α : Type} (f : α → List Nat) : ∀ xs : List α, strsD (xs.map fun x => .str (mk (f x))) = some (xs.map fun x => mk (f x))
  | [] => rfl
  | x :: xs => by simp only [List.map_cons, strsD, strsD_map f xs, Option.map_some]
theorem foldl_glue (s : List Nat) : ∀ (r : List (List Nat)) (acc : List Nat), (r.map mk).foldl (fun acc p => acc ++ (mk s).cps ++ p.cps) acc.toArray = (acc ++ r.flatMap fun x => s ++ x).toArray
  | [], acc => by simp
  | x :: r, acc => by
    rw [List.map_cons, List.foldl_cons]
    have : acc.toArray ++ (mk s).cps ++ (mk x).cps = (acc ++ (s ++ x)).toArray := by simp [mk]
    rw [this, foldl_glue s r]
    simp
/-- pieces with a text between -/
def joinN (s : List Nat) : List (List Nat) → List Nat
  | [] => []
  | x :: r => x ++ r.flatMap fun y => s ++ y
theorem join_mk (s : List Nat) (xs : List (List Nat)) : Txt.join (mk s) (xs.map mk) = mk (joinN s xs) := by
  show Builtin.Str.glued (mk s) (xs.map mk) = _
  unfold Builtin.Str.glued
  cases xs with
  | nil => rfl
  | cons x r =>
    simp only [List.map_cons, List.drop_one, List.tail_cons, List.headD_cons]
    have := foldl_glue s r x
    unfold mk at this ⊢
    rw [this]; rfl
theorem joinN_nil (xs : List (List Nat)) : joinN [] xs = xs.flatten := by
  cases xs with
  | nil => rfl
  | cons x r => simp [joinN, List.flatMap]
theorem strsD_mk : ∀ xs : List (List Nat), strsD (xs.map fun x => .str (mk x)) = some (xs.map mk)
  | [] => rfl
  | x :: xs => by simp only [List.map_cons, strsD, strsD_mk xs, Option.map_some]
theorem o_join {s : List Nat} {xs : List (List Nat)} {Q : D → Ev → Prop} (e : (xs.map (·.length)).sum + xs.length * s.length ≤ 16777216) (h : Q (.str (mk (joinN s xs))) ρ) : wp (M.lift (dJoin (.str (mk s)) [.list (xs.map fun x => .str (mk x))])) ρ Q E := by
  refine w_lift (a := .str (mk (joinN s xs))) ?_ h
  unfold dJoin
  simp only [strsD_mk]
  rw [if_pos (by unfold joinOk; rw [mk_len, List.map_map, List.length_map]; refine decide_eq_true ?_; simpa [Function.comp_def, mk_len] using e), join_mk]
theorem o_joinT {s : List Nat} {xs : List (List Nat)} {Q : D → Ev → Prop} (e : (xs.map (·.length)).sum + xs.length * s.length ≤ 16777216) (h : Q (.str (mk (joinN s xs))) ρ) : wp (M.lift (dJoin (.str (mk s)) [.tuple (xs.map fun x => .str (mk x))])) ρ Q E := by
  refine w_lift (a := .str (mk (joinN s xs))) ?_ h
  unfold dJoin
  simp only [strsD_mk]
  rw [if_pos (by unfold joinOk; rw [mk_len, List.map_map, List.length_map]; refine decide_eq_true ?_; simpa [Function.comp_def, mk_len] using e), join_mk]
/-! figures -/
def FIGS : List Nat := [48, 49, 50, 51, 52, 53, 54, 55, 56, 57]
def fig (n : Nat) : List Nat := [48 + n / 10, 48 + n % 10]
theorem fig_ix {i : Int} (h0 : 0 ≤ i) (h1 : i < 10) : L2.atI [48, 49, 50, 51, 52, 53, 54, 55, 56, 57] i = some (48 + i.toNat) := by
  have : i = 0 ∨ i = 1 ∨ i = 2 ∨ i = 3 ∨ i = 4 ∨ i = 5 ∨ i = 6 ∨ i = 7 ∨ i = 8 ∨ i = 9 := by omega
  rcases this with rfl | rfl | rfl | rfl | rfl | rfl | rfl | rfl | rfl | rfl <;> rfl
theorem o_str1 {i : Int} {Q : D → Ev → Prop} (h0 : 0 ≤ i) (h1 : i < 10) (h : Q (.str (mk [48 + i.toNat])) ρ) : wp (M.lift (dStr [.int i])) ρ Q E := by
  refine w_lift (a := .str (mk [48 + i.toNat])) ?_ h
  have : i = 0 ∨ i = 1 ∨ i = 2 ∨ i = 3 ∨ i = 4 ∨ i = 5 ∨ i = 6 ∨ i = 7 ∨ i = 8 ∨ i = 9 := by omega
  rcases this with rfl | rfl | rfl | rfl | rfl | rfl | rfl | rfl | rfl | rfl <;> kernel_rfl
/-! tuples of texts -/
def strT (xs : List (List Nat)) : D := .tuple (xs.map fun x => .str (mk x))
def okL (x : List Nat) : Prop := ∀ c ∈ x, c < 1114112
theorem strOk_mk {x : List Nat} (h : okL x) : PyData.strOk (mk x) = true := by
  unfold PyData.strOk mk
  simp only [List.all_toArray, List.all_eq_true, decide_eq_true_eq]
  exact h
theorem layT {xs : List (List Nat)} (h : ∀ x ∈ xs, okL x) : PyData.canLayAll0 (xs.map fun x => .str (mk x)) = true := by
  induction xs with
  | nil => rfl
  | cons x r ih =>
    simp only [List.map_cons, PyData.canLayAll0, PyData.canLay0, strOk_mk (h x List.mem_cons_self), Bool.true_and]
    exact ih fun y hy => h y (List.mem_cons_of_mem _ hy)
theorem depT (xs : List (List Nat)) : PyData.depthAll (xs.map fun x => .str (mk x)) = 0 := by
  induction xs with
  | nil => rfl
  | cons x r ih => simp only [List.map_cons, PyData.depthAll, PyData.depth, ih]; rfl
theorem shpT {xs : List (List Nat)} (h : ∀ x ∈ xs, okL x) : shp (strT xs) = true := by
  unfold shp SeqAt.shaped strT
  simp only [PyData.canLay0, layT h, PyData.depth, depT]
  decide
theorem eqvT : ∀ xs ys : List (List Nat), PyData.eqvAll (xs.map fun x => .str (mk x)) (ys.map fun x => .str (mk x)) = decide (xs = ys)
  | [], [] => by simp [PyData.eqvAll]
  | [], _ :: _ => by simp [PyData.eqvAll]
  | _ :: _, [] => by simp [PyData.eqvAll]
  | x :: xs, y :: ys => by
    simp only [List.map_cons, PyData.eqvAll, PyData.eqv, eqvT xs ys]
    rw [Bool.eq_iff_iff]
    simp [mk_inj]
theorem o_neT {xs ys : List (List Nat)} {Q : D → Ev → Prop} (hx : ∀ x ∈ xs, okL x) (hy : ∀ x ∈ ys, okL x) (h : Q (.bool (!decide (xs = ys))) ρ) : wp (M.lift (dNe (strT xs) (strT ys))) ρ Q E := by
  refine w_lift (a := .bool (!decide (xs = ys))) ?_ h
  show dNe0 _ _ = _
  unfold dNe0
  rw [if_pos ⟨shpT hx, shpT hy⟩]
  unfold strT
  simp only [PyData.eqv, eqvT]
theorem o_eqT {xs ys : List (List Nat)} {Q : D → Ev → Prop} (hx : ∀ x ∈ xs, okL x) (hy : ∀ x ∈ ys, okL x) (h : Q (.bool (decide (xs = ys))) ρ) : wp (M.lift (dEq (strT xs) (strT ys))) ρ Q E := by
  refine w_lift (a := .bool (decide (xs = ys))) ?_ h
  show dEq0 _ _ = _
  unfold dEq0
  rw [if_pos ⟨shpT hx, shpT hy⟩]
  unfold strT
  simp only [PyData.eqv, eqvT]
/-! enumerate -/
theorem enumD_map {α : Type} (enc : α → D) (xs : List α) : enumD (xs.map enc) = xs.zipIdx.map fun p => .tuple [.int (p.2 : Nat), enc p.1] := by
  unfold enumD
  refine List.ext_getElem? fun i => ?_
  simp only [List.getElem?_mapIdx, List.getElem?_map, List.getElem?_zipIdx]
  cases xs[i]? <;> simp
theorem zipIdx_split {α : Type} : ∀ {xs : List α} {k : Nat} {pre post : List (α × Nat)} {p : α × Nat}, xs.zipIdx k = pre ++ p :: post → p.2 = k + pre.length ∧ xs = pre.map (·.1) ++ p.1 :: post.map (·.1) := by
  intro xs
  induction xs with
  | nil => intro k pre post p h; simp at h
  | cons x r ih =>
    intro k pre post p h
    cases pre with
    | nil =>
      simp only [List.zipIdx_cons, List.nil_append, List.cons.injEq] at h
      obtain ⟨h1, h2⟩ := h
      subst h1
      refine ⟨by simp, ?_⟩
      simp only [List.map_nil, List.nil_append, List.cons.injEq, true_and]
      rw [← h2]
      refine List.ext_getElem? fun i => ?_
      simp only [List.getElem?_map, List.getElem?_zipIdx]
      cases r[i]? <;> simp
    | cons q pre =>
      simp only [List.zipIdx_cons, List.cons_append, List.cons.injEq] at h
      obtain ⟨h1, h2⟩ := h
      obtain ⟨h3, h4⟩ := ih h2
      subst h1
      refine ⟨by rw [h3, List.length_cons]; omega, by rw [List.map_cons, List.cons_append, ← h4]⟩
theorem w_ct {α : Type} {a b : M α} {Q : α → Ev → Prop} (h : wp a ρ Q E) : wp (cond true a b) ρ Q E := h
theorem w_cf {α : Type} {a b : M α} {Q : α → Ev → Prop} (h : wp b ρ Q E) : wp (cond false a b) ρ Q E := h
theorem atI_m1 {α : Type} (xs : List α) (x : α) : L2.atI (xs ++ [x]) (-1) = some x := by
  rw [atI_last (by decide) (by simp; omega)]
  have : ((-1 : Int) + ((xs ++ [x]).length : Int)).toNat = xs.length := by simp only [List.length_append, List.length_singleton]; omega
  rw [this]; simp
theorem noDcts_str (xs : List (List Nat)) : noDcts (xs.map fun x => .str (mk x)) = true := by
  induction xs with
  | nil => rfl
  | cons x r ih => simp only [List.map_cons, noDcts, noDct, ih]; rfl
theorem chkG1 {i : Nat} {ds : List D} (e : ρ[i]? = some (some (.list ds))) (h : noDct (.list ds) = true) : chkG [(i, .list ds)] ρ = true := by
  unfold chkG
  simp only [List.all_cons, List.all_nil, e, eqD_refl h, Bool.and_true]
end
end Cr
end
section
set_option Elab.async false
set_option linter.all false
set_option maxRecDepth 100000
namespace E
open PySem PySem.Spec L2 Cr
def top (i : Nat) : Stmt := PySem.Challenge.pw_cardroom_k76_whole_texts_on_cards.main.body.getD i (.Pass ⟨0, 0, 0, 0⟩)
def G0 : List (Str × Gk) := [("CardError", .ex0), ("BadCard", .ex1 "card" 1), ("BadText", .ex1 "place" 1), ("NoDeck", .ex0), ("NoText", .ex0), ("NoWidth", .ex0), ("TooMany", .ex1 "most" 1), ("FIGURES", .con (.str "0123456789")), ("SIGNS", .con (.str "0123456789x.")), ("MOST_WIDTH", .con (.int (8))), ("MOST_CARDS", .con (.int (400))), ("MOST_TEXT", .con (.int (20000))), ("BLANK", .con (.int (32))), ("FIRST_SIGNS", .con (.str " !\"#$%&'()*+,-./0123456789:;<=>?@")), ("LAST_SIGNS", .con (.str "ABCDEFGHIJKLMNOPQRSTUVWXYZ[\\]^_`abcdefghijklmnopqrstuvwxyz{|}~")), ("FEED", .con (.int (95))), ("SHARE", .con (.int (3))), ("EMPTY", .con (.str "..")), ("PLACES", .con (.int (2)))]
def X0 : List (Str × List Str) := [("CardError", (["CardError"] : List Str)), ("BadCard", (["BadCard", "CardError"] : List Str)), ("BadText", (["BadText", "CardError"] : List Str)), ("NoDeck", (["NoDeck", "CardError"] : List Str)), ("NoText", (["NoText", "CardError"] : List Str)), ("NoWidth", (["NoWidth", "CardError"] : List Str)), ("TooMany", (["TooMany", "CardError"] : List Str))]
def m_is_integer : List D → Oc D := runD 1 1 [] (cSs 200 ⟨(["thing"] : List Str), defScope (top 13), true, [], [], [], false, 0, true, X0, G0, false⟩ (defBody (top 13)))
def G_is_integer : List (Str × Gk) := ("is_integer", .fn [⟨[], false, 1, m_is_integer⟩]) :: G0
def m_is_within : List D → Oc D := runD 3 3 [] (cSs 200 ⟨(["thing", "low", "high"] : List Str), defScope (top 14), true, [], [], [], false, 1, true, X0, G_is_integer, false⟩ (defBody (top 14)))
def G_is_within : List (Str × Gk) := ("is_within", .fn [⟨[], false, 2, m_is_within⟩]) :: G_is_integer
def m_is_few : List D → Oc D := runD 2 2 [] (cSs 200 ⟨(["thing", "most"] : List Str), defScope (top 15), true, [], [], [], false, 0, true, X0, G_is_within, false⟩ (defBody (top 15)))
def G_is_few : List (Str × Gk) := ("is_few", .fn [⟨[], false, 1, m_is_few⟩]) :: G_is_within
def m_is_width : List D → Oc D := runD 1 1 [] (cSs 200 ⟨(["thing"] : List Str), defScope (top 16), true, [], [], [], false, 2, true, X0, G_is_few, false⟩ (defBody (top 16)))
def G_is_width : List (Str × Gk) := ("is_width", .fn [⟨[], false, 3, m_is_width⟩]) :: G_is_few
def m_check_width : List D → Oc D := runD 1 1 [] (cSs 200 ⟨(["width"] : List Str), defScope (top 17), true, [], [], [], false, 3, true, X0, G_is_width, false⟩ (defBody (top 17)))
def G_check_width : List (Str × Gk) := ("check_width", .fn [⟨[], false, 4, m_check_width⟩]) :: G_is_width
def m_raw_is_card : List D → Oc D := runD 3 2 [] (cSs 200 ⟨(["width", "thing", "sign"] : List Str), defScope (top 18), true, [], [], [], false, 0, true, X0, G_check_width, false⟩ (defBody (top 18)))
def G_raw_is_card : List (Str × Gk) := ("raw_is_card", .fn [⟨[], false, 1, m_raw_is_card⟩]) :: G_check_width
def m_raw_is_deck : List D → Oc D := runD 3 2 [] (cSs 200 ⟨(["width", "thing", "card"] : List Str), defScope (top 19), true, [], [], [], false, 1, true, X0, G_raw_is_card, false⟩ (defBody (top 19)))
def G_raw_is_deck : List (Str × Gk) := ("raw_is_deck", .fn [⟨[], false, 2, m_raw_is_deck⟩]) :: G_raw_is_card
def m_is_deck : List D → Oc D := runD 2 2 [] (cSs 200 ⟨(["width", "thing"] : List Str), defScope (top 20), true, [], [], [], false, 4, true, X0, G_raw_is_deck, false⟩ (defBody (top 20)))
def G_is_deck : List (Str × Gk) := ("is_deck", .fn [⟨[], false, 5, m_is_deck⟩]) :: G_raw_is_deck
def m_check_text : List D → Oc D := runD 1 1 [] (cSs 200 ⟨(["text"] : List Str), defScope (top 23), true, [], [], [], false, 0, true, X0, G_is_deck, false⟩ (defBody (top 23)))
def G_check_text : List (Str × Gk) := ("check_text", .fn [⟨[], false, 1, m_check_text⟩]) :: G_is_deck
def m_code_of : List D → Oc D := runD 2 1 [] (cSs 200 ⟨(["sign", "number"] : List Str), defScope (top 32), true, [], [], [], false, 0, true, X0, G_check_text, false⟩ (defBody (top 32)))
def G_code_of : List (Str × Gk) := ("code_of", .fn [⟨[], false, 1, m_code_of⟩]) :: G_check_text
def m_is_coded : List D → Oc D := runD 1 1 [] (cSs 200 ⟨(["sign"] : List Str), defScope (top 33), true, [], [], [], false, 0, true, X0, G_code_of, false⟩ (defBody (top 33)))
def G_is_coded : List (Str × Gk) := ("is_coded", .fn [⟨[], false, 1, m_is_coded⟩]) :: G_code_of
def m_raw_text_deck : List D → Oc D := runD 7 1 [] (cSs 200 ⟨(["text", "found", "at", "signs", "number", "head", "sign"] : List Str), defScope (top 34), true, [1], [], [], false, 1, true, X0, G_is_coded, false⟩ (defBody (top 34)))
def G_raw_text_deck : List (Str × Gk) := ("raw_text_deck", .fn [⟨[], false, 2, m_raw_text_deck⟩]) :: G_is_coded
def m_text_deck : List D → Oc D := runD 3 1 [] (cSs 200 ⟨(["text", "sign", "at"] : List Str), defScope (top 35), true, [], [], [], false, 2, true, X0, G_raw_text_deck, false⟩ (defBody (top 35)))
def G_text_deck : List (Str × Gk) := ("text_deck", .fn [⟨[], false, 3, m_text_deck⟩]) :: G_raw_text_deck
def m_sign_of : List D → Oc D := runD 3 1 [] (cSs 200 ⟨(["figures", "number", "sign"] : List Str), defScope (top 36), true, [], [], [], false, 0, true, X0, G_text_deck, false⟩ (defBody (top 36)))
def G_sign_of : List (Str × Gk) := ("sign_of", .fn [⟨[], false, 1, m_sign_of⟩]) :: G_text_deck
def m_share_of : List D → Oc D := runD 6 1 [] (cSs 200 ⟨(["card", "found", "pairs", "pair", "sign", "at"] : List Str), defScope (top 37), true, [2], [], [], false, 1, true, X0, G_sign_of, false⟩ (defBody (top 37)))
def G_share_of : List (Str × Gk) := ("share_of", .fn [⟨[], false, 2, m_share_of⟩]) :: G_sign_of
def m_raw_deck_text : List D → Oc D := runD 6 1 [] (cSs 200 ⟨(["deck", "found", "at", "card", "number", "share"] : List Str), defScope (top 38), true, [], [], [], false, 2, true, X0, G_share_of, false⟩ (defBody (top 38)))
def G_raw_deck_text : List (Str × Gk) := ("raw_deck_text", .fn [⟨[], false, 3, m_raw_deck_text⟩]) :: G_share_of
def m_text_of_deck : List D → Oc D := runD 1 1 [] (cSs 200 ⟨(["deck"] : List Str), defScope (top 39), true, [], [], [], false, 3, true, X0, G_raw_deck_text, false⟩ (defBody (top 39)))
def G_text_of_deck : List (Str × Gk) := ("text_of_deck", .fn [⟨[], false, 4, m_text_of_deck⟩]) :: G_raw_deck_text
def m_is_punched_text : List D → Oc D := runD 1 1 [] (cSs 200 ⟨(["thing"] : List Str), defScope (top 40), true, [], [], [], false, 3, true, X0, G_text_of_deck, false⟩ (defBody (top 40)))
def G_is_punched_text : List (Str × Gk) := ("is_punched_text", .fn [⟨[], false, 4, m_is_punched_text⟩]) :: G_text_of_deck
def m__law_signs : List D → Oc D := runD 1 0 [] (cSs 200 ⟨(["first"] : List Str), defScope (top 42), true, [], [], [], false, 0, true, X0, G_is_punched_text, false⟩ (defBody (top 42)))
def G__law_signs : List (Str × Gk) := ("_law_signs", .fn [⟨[], false, 1, m__law_signs⟩]) :: G_is_punched_text
def m__law_hand : List D → Oc D := runD 3 1 [] (cSs 200 ⟨(["script", "cells", "cell"] : List Str), defScope (top 43), true, [], [], [], true, 0, true, X0, G__law_signs, false⟩ (defBody (top 43)))
def G__law_hand : List (Str × Gk) := ("_law_hand", .fn [⟨[], true, 1, m__law_hand⟩]) :: G__law_signs
def m__law_draw : List D → Oc D := runD 5 2 [0] (cSs 200 ⟨(["hand", "many", "cell", "digit", "number"] : List Str), defScope (top 44), true, [0], [0], [], false, 0, true, X0, G__law_hand, false⟩ (defBody (top 44)))
def G__law_draw : List (Str × Gk) := ("_law_draw", .fn [⟨[0], false, 1, m__law_draw⟩]) :: G__law_hand
def m__law_any : List D → Oc D := runD 2 2 [0] (cSs 200 ⟨(["hand", "some"] : List Str), defScope (top 45), true, [0], [0], [], false, 1, true, X0, G__law_draw, false⟩ (defBody (top 45)))
def m__law_any_1 : List D → Oc D := runD 2 2 [0, 1] (cSs 200 ⟨(["hand", "some"] : List Str), defScope (top 45), true, [0, 1], [0, 1], [], false, 1, true, X0, G__law_draw, false⟩ (defBody (top 45)))
def G__law_any : List (Str × Gk) := ("_law_any", .fn [⟨[0], false, 2, m__law_any⟩, ⟨[0, 1], false, 2, m__law_any_1⟩]) :: G__law_draw
def m__law_code : List D → Oc D := runD 2 1 [] (cSs 200 ⟨(["sign", "number"] : List Str), defScope (top 46), true, [], [], [], false, 0, true, X0, G__law_any, false⟩ (defBody (top 46)))
def G__law_code : List (Str × Gk) := ("_law_code", .fn [⟨[], false, 1, m__law_code⟩]) :: G__law_any
def m__law_punched : List D → Oc D := runD 7 1 [] (cSs 200 ⟨(["text", "found", "at", "share", "number", "head", "sign"] : List Str), defScope (top 47), true, [1], [], [], false, 1, true, X0, G__law_code, false⟩ (defBody (top 47)))
def G__law_punched : List (Str × Gk) := ("_law_punched", .fn [⟨[], false, 2, m__law_punched⟩]) :: G__law_code
def m__law_text : List D → Oc D := runD 5 2 [0] (cSs 200 ⟨(["hand", "most", "found", "step", "number"] : List Str), defScope (top 48), true, [0], [0], [], false, 1, true, X0, G__law_punched, false⟩ (defBody (top 48)))
def G__law_text : List (Str × Gk) := ("_law_text", .fn [⟨[0], false, 2, m__law_text⟩]) :: G__law_punched
def lwH : List ExceptHandler := match defBody (top 49) with
  | [_, .Try _ hs _ _ _, _] => hs
  | _ => []
def h__law_word : Xc → Option D := hdW 4 1 X0 (cH 200 ⟨(["call", "word", "e", "flags"] : List Str), defScope (top 49), true, [], [], [], false, 0, false, X0, G__law_text, false⟩ lwH).2
def G__law_word : List (Str × Gk) := ("_law_word", .lamw "let" h__law_word) :: G__law_text
def m__law_bent : List D → Oc D := runD 5 2 [0] (cSs 200 ⟨(["hand", "deck", "at", "card", "some"] : List Str), defScope (top 50), true, [0, 4], [0], [], false, 2, true, X0, G__law_word, false⟩ (defBody (top 50)))
def G__law_bent : List (Str × Gk) := ("_law_bent", .fn [⟨[0], false, 3, m__law_bent⟩]) :: G__law_word
def m_law : List D → Oc D := runD 8 1 [] (cSs 200 ⟨(["script", "hand", "turn", "text", "deck", "bent", "at", "off"] : List Str), defScope (top 51), true, [1], [], [], false, 6, true, X0, G__law_bent, true⟩ (defBody (top 51)))
def G_law : List (Str × Gk) := ("law", .fn [⟨[], false, 7, m_law⟩]) :: G__law_bent
end E
end
section
set_option Elab.async false
set_option linter.all false
set_option maxRecDepth 100000
namespace E
open PySem PySem.Spec L2 Cr
def x_is_integer : M Fl :=
  M.seq (M.ret (M.andV (M.isi "int" (M.get 0)) (M.notV (M.isi "bool" (M.get 0))))) <|
  M.nx
theorem x_is_integer_eq : m_is_integer = runD 1 1 [] x_is_integer := by kernel_rfl
def x_is_within : M Fl :=
  M.seq (M.ret (M.andV (M.callL m_is_integer [.val ⟨true, true, true, false⟩] [.v (M.get 0)]) (M.chain dLe dLe (M.get 1) (M.get 0) (M.get 2)))) <|
  M.nx
theorem x_is_within_eq : m_is_within = runD 3 3 [] x_is_within := by kernel_rfl
def x_is_few : M Fl :=
  M.seq (M.ret (M.andV (M.isi "tuple" (M.get 0)) (M.op2 dLe (M.bltL dLen [M.get 0]) (M.get 1)))) <|
  M.nx
theorem x_is_few_eq : m_is_few = runD 2 2 [] x_is_few := by kernel_rfl
def x_is_width : M Fl :=
  M.seq (M.ret (M.callL m_is_within [.val ⟨true, true, true, false⟩, .val ⟨true, true, true, true⟩, .val ⟨true, true, true, true⟩] [.v (M.get 0), .v (M.pure (.int 1)), .v (M.pure (.int 8))])) <|
  M.nx
theorem x_is_width_eq : m_is_width = runD 1 1 [] x_is_width := by kernel_rfl
def x_check_width : M Fl :=
  M.seq (M.ife (M.bnot (M.tru (M.callL m_is_width [.val ⟨true, true, true, false⟩] [.v (M.get 0)]))) (
    M.seq (M.raise ⟨"NoWidth", none⟩) <|
    M.nx) (M.nx)) <|
  M.nx
theorem x_check_width_eq : m_check_width = runD 1 1 [] x_check_width := by kernel_rfl
def x_raw_is_card : M Fl :=
  M.seq (M.ret (M.andV (M.isi "str" (M.get 1)) (M.andV (M.op2 dEq (M.bltL dLen [M.get 1]) (M.get 0)) (M.bltL dAll [M.lc (M.src (M.get 1)) (M.lcTurn [2] (M.setD 2) (M.pure true) (M.op2 dIn (M.get 2) (M.pure (.str (mk [48, 49, 50, 51, 52, 53, 54, 55, 56, 57, 120, 46])))))])))) <|
  M.nx
theorem x_raw_is_card_eq : m_raw_is_card = runD 3 2 [] x_raw_is_card := by kernel_rfl
def x_raw_is_deck : M Fl :=
  M.seq (M.ret (M.andV (M.callL m_is_few [.val ⟨true, true, true, false⟩, .val ⟨true, true, true, true⟩] [.v (M.get 1), .v (M.pure (.int 400))]) (M.bltL dAll [M.lc (M.src (M.get 1)) (M.lcTurn [2] (M.setD 2) (M.pure true) (M.callL m_raw_is_card [.val ⟨true, true, true, false⟩, .val ⟨true, true, true, false⟩] [.v (M.get 0), .v (M.get 2)]))]))) <|
  M.nx
theorem x_raw_is_deck_eq : m_raw_is_deck = runD 3 2 [] x_raw_is_deck := by kernel_rfl
def x_is_deck : M Fl :=
  M.seq (M.exp (M.callL m_check_width [.val ⟨true, true, true, false⟩] [.v (M.get 0)])) <|
  M.seq (M.ret (M.callL m_raw_is_deck [.val ⟨true, true, true, false⟩, .val ⟨true, true, true, false⟩] [.v (M.get 0), .v (M.get 1)])) <|
  M.nx
theorem x_is_deck_eq : m_is_deck = runD 2 2 [] x_is_deck := by kernel_rfl
def x_check_text : M Fl :=
  M.seq (M.ife (M.bor (M.bnot (M.tru (M.isi "str" (M.get 0)))) (M.cmpB (M.op2 dGt (M.bltL dLen [M.get 0]) (M.pure (.int 20000))))) (
    M.seq (M.raise ⟨"NoText", none⟩) <|
    M.nx) (M.nx)) <|
  M.nx
theorem x_check_text_eq : m_check_text = runD 1 1 [] x_check_text := by kernel_rfl
def x_code_of : M Fl :=
  M.seq (M.asg 1 (M.ife (M.cmpB (M.op2 dEq (M.get 0) (M.pure (.str (mk [10]))))) (M.pure (.int 95)) (M.op2 dSub (M.bltL dOrd [M.get 0]) (M.pure (.int 32))))) <|
  M.seq (M.ret (M.op2 dAdd (M.op2 dIx (M.pure (.str (mk [48, 49, 50, 51, 52, 53, 54, 55, 56, 57]))) (M.op2 dDiv (M.get 1) (M.pure (.int 10)))) (M.op2 dIx (M.pure (.str (mk [48, 49, 50, 51, 52, 53, 54, 55, 56, 57]))) (M.op2 dMod (M.bltL dInt [M.get 1]) (M.pure (.int 10)))))) <|
  M.nx
theorem x_code_of_eq : m_code_of = runD 2 1 [] x_code_of := by kernel_rfl
def x_is_coded : M Fl :=
  M.seq (M.ret (M.orV (M.op2 dEq (M.get 0) (M.pure (.str (mk [10])))) (M.chain dLe dLt (M.pure (.int 32)) (M.bltL dOrd [M.get 0]) (M.op2 dAdd (M.pure (.int 32)) (M.pure (.int 95)))))) <|
  M.nx
theorem x_is_coded_eq : m_is_coded = runD 1 1 [] x_is_coded := by kernel_rfl
def x_raw_text_deck : M Fl :=
  M.seq (M.asgO 1 (M.lstL [])) <|
  M.seq (M.for (M.rg dRg3 [M.pure (.int 0), M.bltL dLen [M.get 0], M.pure (.int 3)]) (M.setD 2) (
    M.seq (M.asg 3 (M.mt "str" dJoin (M.pure (.str (mk []))) (M.list [M.lc (M.src (M.cut (M.get 0) (M.someI (M.get 2)) (M.someI (M.op2 dAdd (M.get 2) (M.pure (.int 3)))))) (M.lcTurn [6] (M.setD 6) (M.pure true) (M.callL m_code_of [.val ⟨true, true, true, false⟩] [.v (M.get 6)]))]))) <|
    M.seq (M.asg 4 (M.op2 dMod (M.bltL dInt [M.op2 dDiv (M.get 2) (M.pure (.int 3))]) (M.pure (.int 100)))) <|
    M.seq (M.asg 5 (M.op2 dAdd (M.op2 dIx (M.pure (.str (mk [48, 49, 50, 51, 52, 53, 54, 55, 56, 57]))) (M.op2 dDiv (M.get 4) (M.pure (.int 10)))) (M.op2 dIx (M.pure (.str (mk [48, 49, 50, 51, 52, 53, 54, 55, 56, 57]))) (M.op2 dMod (M.bltL dInt [M.get 4]) (M.pure (.int 10)))))) <|
    M.seq (M.exp (M.mO 1 gApp [M.op2 dAdd (M.op2 dAdd (M.get 5) (M.get 3)) (M.op2 dMul (M.pure (.str (mk [46, 46]))) (M.op2 dSub (M.pure (.int 3)) (M.bltL dLen [M.cut (M.get 0) (M.someI (M.get 2)) (M.someI (M.op2 dAdd (M.get 2) (M.pure (.int 3))))])))])) <|
    M.nx)) <|
  M.seq (M.ret (M.bltL dTuple [M.get 1])) <|
  M.nx
theorem x_raw_text_deck_eq : m_raw_text_deck = runD 7 1 [] x_raw_text_deck := by kernel_rfl
def x_text_deck : M Fl :=
  M.seq (M.exp (M.callL m_check_text [.val ⟨true, true, true, false⟩] [.v (M.get 0)])) <|
  M.seq (M.ife (M.bnot (M.tru (M.bltL dAll [M.lc (M.src (M.get 0)) (M.lcTurn [1] (M.setD 1) (M.pure true) (M.callL m_is_coded [.val ⟨true, true, true, false⟩] [.v (M.get 1)]))]))) (
    M.seq (M.raise1 "BadText" "place" (M.op2 dIx (M.lc (M.enum (M.src (M.get 0))) (M.lcTurn [2, 1] (M.setTup 2 (M.setCons (M.setD 2) (M.setCons (M.setD 1) (M.setNil)))) (M.bnot (M.tru (M.callL m_is_coded [.val ⟨true, true, true, false⟩] [.v (M.get 1)]))) (M.get 2))) (M.pure (.int 0)))) <|
    M.nx) (M.nx)) <|
  M.seq (M.ife (M.cmpB (M.op2 dGt (M.bltL dLen [M.get 0]) (M.op2 dMul (M.pure (.int 3)) (M.pure (.int 400))))) (
    M.seq (M.raise1 "TooMany" "most" (M.op2 dMul (M.pure (.int 3)) (M.pure (.int 400)))) <|
    M.nx) (M.nx)) <|
  M.seq (M.ret (M.callL m_raw_text_deck [.val ⟨true, true, true, false⟩] [.v (M.get 0)])) <|
  M.nx
theorem x_text_deck_eq : m_text_deck = runD 3 1 [] x_text_deck := by kernel_rfl
def x_sign_of : M Fl :=
  M.seq (M.ife (M.bnot (M.tru (M.bltL dAll [M.lc (M.src (M.get 0)) (M.lcTurn [2] (M.setD 2) (M.pure true) (M.op2 dIn (M.get 2) (M.pure (.str (mk [48, 49, 50, 51, 52, 53, 54, 55, 56, 57])))))]))) (
    M.seq (M.ret (M.pure (.none))) <|
    M.nx) (M.nx)) <|
  M.seq (M.asg 1 (M.op2 dAdd (M.op2 dMul (M.pure (.int 10)) (M.mt "str" dSix (M.pure (.str (mk [48, 49, 50, 51, 52, 53, 54, 55, 56, 57]))) (M.list [M.op2 dIx (M.get 0) (M.pure (.int 0))]))) (M.mt "str" dSix (M.pure (.str (mk [48, 49, 50, 51, 52, 53, 54, 55, 56, 57]))) (M.list [M.op2 dIx (M.get 0) (M.pure (.int 1))])))) <|
  M.seq (M.ife (M.cmpB (M.op2 dGt (M.get 1) (M.pure (.int 95)))) (
    M.seq (M.ret (M.pure (.none))) <|
    M.nx) (M.nx)) <|
  M.seq (M.ret (M.ife (M.cmpB (M.op2 dEq (M.get 1) (M.pure (.int 95)))) (M.pure (.str (mk [10]))) (M.op2 dIx (M.op2 dAdd (M.pure (.str (mk (32 :: 33 :: 34 :: 35 :: 36 :: 37 :: 38 :: 39 :: 40 :: 41 :: 42 :: 43 :: 44 :: 45 :: 46 :: 47 :: 48 :: 49 :: 50 :: 51 :: 52 :: 53 :: 54 :: 55 :: 56 :: 57 :: 58 :: 59 :: 60 :: 61 :: 62 :: 63 :: 64 :: [])))) (M.pure (.str (mk (65 :: 66 :: 67 :: 68 :: 69 :: 70 :: 71 :: 72 :: 73 :: 74 :: 75 :: 76 :: 77 :: 78 :: 79 :: 80 :: 81 :: 82 :: 83 :: 84 :: 85 :: 86 :: 87 :: 88 :: 89 :: 90 :: 91 :: 92 :: 93 :: 94 :: 95 :: 96 :: 97 :: 98 :: 99 :: 100 :: 101 :: 102 :: 103 :: 104 :: 105 :: 106 :: 107 :: 108 :: 109 :: 110 :: 111 :: 112 :: 113 :: 114 :: 115 :: 116 :: 117 :: 118 :: 119 :: 120 :: 121 :: 122 :: 123 :: 124 :: 125 :: 126 :: []))))) (M.get 1)))) <|
  M.nx
theorem x_sign_of_eq : m_sign_of = runD 3 1 [] x_sign_of := by kernel_rfl
def x_share_of : M Fl :=
  M.seq (M.par false true 1 2 (M.pure (.str (mk []))) (M.lc (M.rg dRg3 [M.pure (.int 2), M.pure (.int 8), M.pure (.int 2)]) (M.lcTurn [5] (M.setD 5) (M.pure true) (M.cut (M.get 0) (M.someI (M.get 5)) (M.someI (M.op2 dAdd (M.get 5) (M.pure (.int 2)))))))) <|
  M.seq (M.whl (M.band (M.cmpB (M.op2 dGt (M.bltL dLen [M.get 2]) (M.pure (.int 0)))) (M.cmpB (M.op2 dEq (M.ixO 2 (M.pure (.int (-1)))) (M.pure (.str (mk [46, 46])))))) (
    M.seq (M.exp (M.mO 2 gPop [])) <|
    M.nx) whileFuel) <|
  M.seq (M.for (M.srcOwn 2) (M.setD 3) (
    M.seq (M.asg 4 (M.callL m_sign_of [.val ⟨true, true, true, false⟩] [.v (M.get 3)])) <|
    M.seq (M.ife (M.cmpB (M.op2 dIs (M.get 4) (M.pure (.none)))) (
      M.seq (M.ret (M.pure (.none))) <|
      M.nx) (M.nx)) <|
    M.seq (M.aug 1 dIAdd (M.get 4)) <|
    M.nx)) <|
  M.seq (M.ret (M.get 1)) <|
  M.nx
theorem x_share_of_eq : m_share_of = runD 6 1 [] x_share_of := by kernel_rfl
def x_raw_deck_text : M Fl :=
  M.seq (M.asg 1 (M.pure (.str (mk [])))) <|
  M.seq (M.for (M.enum (M.src (M.get 0))) (M.setTup 2 (M.setCons (M.setD 2) (M.setCons (M.setD 3) (M.setNil)))) (
    M.seq (M.asg 4 (M.op2 dMod (M.bltL dInt [M.get 2]) (M.pure (.int 100)))) <|
    M.seq (M.asg 5 (M.callL m_share_of [.val ⟨true, true, true, false⟩] [.v (M.get 3)])) <|
    M.seq (M.ife (M.bor (M.cmpB (M.op2 dNe (M.cut (M.get 3) (M.noI) (M.someI (M.pure (.int 2)))) (M.op2 dAdd (M.op2 dIx (M.pure (.str (mk [48, 49, 50, 51, 52, 53, 54, 55, 56, 57]))) (M.op2 dDiv (M.get 4) (M.pure (.int 10)))) (M.op2 dIx (M.pure (.str (mk [48, 49, 50, 51, 52, 53, 54, 55, 56, 57]))) (M.op2 dMod (M.bltL dInt [M.get 4]) (M.pure (.int 10))))))) (M.bor (M.cmpB (M.op2 dIs (M.get 5) (M.pure (.none)))) (M.cmpB (M.op2 dEq (M.get 5) (M.pure (.str (mk []))))))) (
      M.seq (M.raise1 "BadCard" "card" (M.get 2)) <|
      M.nx) (M.nx)) <|
    M.seq (M.ife (M.band (M.cmpB (M.op2 dLt (M.bltL dLen [M.get 5]) (M.pure (.int 3)))) (M.cmpB (M.op2 dLt (M.get 2) (M.op2 dSub (M.bltL dLen [M.get 0]) (M.pure (.int 1)))))) (
      M.seq (M.raise1 "BadCard" "card" (M.get 2)) <|
      M.nx) (M.nx)) <|
    M.seq (M.aug 1 dIAdd (M.get 5)) <|
    M.nx)) <|
  M.seq (M.ret (M.get 1)) <|
  M.nx
theorem x_raw_deck_text_eq : m_raw_deck_text = runD 6 1 [] x_raw_deck_text := by kernel_rfl
def x_text_of_deck : M Fl :=
  M.seq (M.ife (M.bnot (M.tru (M.callL m_raw_is_deck [.val ⟨true, true, true, true⟩, .val ⟨true, true, true, false⟩] [.v (M.pure (.int 8)), .v (M.get 0)]))) (
    M.seq (M.raise ⟨"NoDeck", none⟩) <|
    M.nx) (M.nx)) <|
  M.seq (M.ret (M.callL m_raw_deck_text [.val ⟨true, true, true, false⟩] [.v (M.get 0)])) <|
  M.nx
theorem x_text_of_deck_eq : m_text_of_deck = runD 1 1 [] x_text_of_deck := by kernel_rfl
def x_is_punched_text : M Fl :=
  M.seq (M.ife (M.bnot (M.tru (M.callL m_raw_is_deck [.val ⟨true, true, true, true⟩, .val ⟨true, true, true, false⟩] [.v (M.pure (.int 8)), .v (M.get 0)]))) (
    M.seq (M.ret (M.pure (.bool false))) <|
    M.nx) (M.nx)) <|
  M.seq (M.tryE X0 (
    M.seq (M.ret (M.op2 dEq (M.callL m_raw_text_deck [.val ⟨true, true, true, false⟩] [.v (M.callL m_raw_deck_text [.val ⟨true, true, true, false⟩] [.v (M.get 0)])]) (M.get 0))) <|
    M.nx) [("BadCard", none, fun _ => 
    M.seq (M.ret (M.pure (.bool false))) <|
    M.nx)]) <|
  M.nx
theorem x_is_punched_text_eq : m_is_punched_text = runD 1 1 [] x_is_punched_text := by kernel_rfl
def x__law_signs : M Fl :=
  M.seq (M.asg 0 (M.pure (.str (mk (32 :: 33 :: 34 :: 35 :: 36 :: 38 :: 38 :: 39 :: 40 :: 41 :: 42 :: 43 :: 44 :: 45 :: 46 :: 47 :: 48 :: 49 :: 50 :: 51 :: 52 :: 53 :: 54 :: 55 :: 56 :: 57 :: 58 :: 59 :: 60 :: 61 :: 62 :: 63 :: 64 :: []))))) <|
  M.seq (M.ret (M.op2 dAdd (M.get 0) (M.pure (.str (mk (65 :: 66 :: 67 :: 68 :: 69 :: 70 :: 71 :: 72 :: 73 :: 74 :: 75 :: 76 :: 77 :: 78 :: 79 :: 80 :: 81 :: 82 :: 83 :: 84 :: 85 :: 86 :: 87 :: 88 :: 89 :: 90 :: 91 :: 92 :: 93 :: 94 :: 95 :: 96 :: 97 :: 98 :: 99 :: 100 :: 101 :: 102 :: 103 :: 104 :: 105 :: 106 :: 107 :: 108 :: 109 :: 110 :: 111 :: 112 :: 113 :: 114 :: 115 :: 116 :: 117 :: 118 :: 119 :: 120 :: 121 :: 122 :: 123 :: 124 :: 125 :: 126 :: [])))))) <|
  M.nx
theorem x__law_signs_eq : m__law_signs = runD 1 0 [] x__law_signs := by kernel_rfl
def x__law_hand : M Fl :=
  M.seq (M.asg 1 (M.lc (M.src (M.cut (M.get 0) (M.noI) (M.someI (M.pure (.int 63))))) (M.lcTurn [2] (M.setD 2) (M.pure true) (M.bltL dAbs [M.bltL dInt [M.get 2]])))) <|
  M.seq (M.ret (M.lstL [M.get 1, M.pure (.int 0), M.pure (.int 0), M.op2 dAdd (M.pure (.int 83)) (M.op2 dMul (M.pure (.int 7)) (M.bltL dLen [M.get 1])), M.pure (.int 0)])) <|
  M.nx
theorem x__law_hand_eq : m__law_hand = runD 3 1 [] x__law_hand := by kernel_rfl
def x__law_draw : M Fl :=
  M.seq (M.ife (M.band (M.cmpB (M.op2 dEq (M.ixO 0 (M.pure (.int 2))) (M.pure (.int 0)))) (M.cmpB (M.op2 dLt (M.ixO 0 (M.pure (.int 1))) (M.bltL dLen [M.ixO 0 (M.pure (.int 0))])))) (
    M.seq (M.asg 2 (M.op2 dIx (M.ixO 0 (M.pure (.int 0))) (M.ixO 0 (M.pure (.int 1))))) <|
    M.seq (M.setIx 0 (M.op2 dAdd (M.ixO 0 (M.pure (.int 1))) (M.pure (.int 1))) (M.pure (.int 1))) <|
    M.seq (M.setIx 0 (M.op2 dMod (M.bltL dInt [M.op2 dAdd (M.op2 dAdd (M.op2 dMul (M.ixO 0 (M.pure (.int 3))) (M.pure (.int 69621))) (M.op2 dMul (M.get 2) (M.pure (.int 40692)))) (M.pure (.int 31))]) (M.pure (.int 2147483629))) (M.pure (.int 3))) <|
    M.seq (M.ife (M.cmpB (M.op2 dGe (M.get 2) (M.op2 dPow (M.pure (.int 10)) (M.pure (.int 18))))) (
      M.seq (M.setIx 0 (M.get 2) (M.pure (.int 2))) <|
      M.nx) (M.nx)) <|
    M.nx) (M.nx)) <|
  M.seq (M.ife (M.cmpB (M.op2 dGt (M.ixO 0 (M.pure (.int 2))) (M.pure (.int 0)))) (
    M.seq (M.asg 3 (M.op2 dMod (M.bltL dInt [M.ixO 0 (M.pure (.int 2))]) (M.get 1))) <|
    M.seq (M.setIx 0 (M.op2 dDiv (M.ixO 0 (M.pure (.int 2))) (M.get 1)) (M.pure (.int 2))) <|
    M.seq (M.ret (M.get 3)) <|
    M.nx) (M.nx)) <|
  M.seq (M.setIx 0 (M.op2 dAdd (M.ixO 0 (M.pure (.int 4))) (M.pure (.int 1))) (M.pure (.int 4))) <|
  M.seq (M.asg 4 (M.op2 dMod (M.bltL dInt [M.op2 dMul (M.bltL dInt [M.op2 dAdd (M.ixO 0 (M.pure (.int 3))) (M.op2 dMul (M.pure (.int 7919)) (M.ixO 0 (M.pure (.int 4))))]) (M.pure (.int 48271))]) (M.pure (.int 2147483647)))) <|
  M.seq (M.asg 4 (M.op2 dMod (M.bltL dInt [M.op2 dMul (M.get 4) (M.op2 dAdd (M.op2 dDiv (M.get 4) (M.pure (.int 1009))) (M.pure (.int 69621)))]) (M.pure (.int 2147483647)))) <|
  M.seq (M.asg 4 (M.op2 dMod (M.bltL dInt [M.op2 dMul (M.get 4) (M.op2 dAdd (M.op2 dDiv (M.get 4) (M.pure (.int 2003))) (M.pure (.int 40014)))]) (M.pure (.int 2147483563)))) <|
  M.seq (M.ret (M.op2 dMod (M.bltL dInt [M.op2 dDiv (M.get 4) (M.pure (.int 16))]) (M.get 1))) <|
  M.nx
theorem x__law_draw_eq : m__law_draw = runD 5 2 [0] x__law_draw := by kernel_rfl
def x__law_any : M Fl :=
  M.seq (M.ret (M.op2 dIx (M.get 1) (M.callL m__law_draw [.own 0, .val ⟨true, true, true, true⟩] [.o 0, .v (M.bltL dLen [M.get 1])]))) <|
  M.nx
theorem x__law_any_eq : m__law_any = runD 2 2 [0] x__law_any := by kernel_rfl
def x__law_any_1 : M Fl :=
  M.seq (M.ret (M.ixO 1 (M.callL m__law_draw [.own 0, .val ⟨true, true, true, true⟩] [.o 0, .v (M.bltL dLen [M.get 1])]))) <|
  M.nx
theorem x__law_any_1_eq : m__law_any_1 = runD 2 2 [0, 1] x__law_any_1 := by kernel_rfl
def x__law_code : M Fl :=
  M.seq (M.asg 1 (M.ife (M.cmpB (M.op2 dEq (M.get 0) (M.pure (.str (mk [10]))))) (M.pure (.int 95)) (M.op2 dSub (M.bltL dOrd [M.get 0]) (M.pure (.int 32))))) <|
  M.seq (M.ret (M.op2 dAdd (M.bltL dStr [M.op2 dDiv (M.get 1) (M.pure (.int 10))]) (M.bltL dStr [M.op2 dMod (M.bltL dInt [M.get 1]) (M.pure (.int 10))]))) <|
  M.nx
theorem x__law_code_eq : m__law_code = runD 2 1 [] x__law_code := by kernel_rfl
def x__law_punched : M Fl :=
  M.seq (M.asgO 1 (M.lstL [])) <|
  M.seq (M.for (M.rg dRg3 [M.pure (.int 0), M.bltL dLen [M.get 0], M.pure (.int 3)]) (M.setD 2) (
    M.seq (M.asg 3 (M.cut (M.get 0) (M.someI (M.get 2)) (M.someI (M.op2 dAdd (M.get 2) (M.pure (.int 3)))))) <|
    M.seq (M.asg 4 (M.op2 dMod (M.bltL dInt [M.op2 dDiv (M.get 2) (M.pure (.int 3))]) (M.pure (.int 100)))) <|
    M.seq (M.asg 5 (M.op2 dAdd (M.bltL dStr [M.op2 dDiv (M.get 4) (M.pure (.int 10))]) (M.bltL dStr [M.op2 dMod (M.bltL dInt [M.get 4]) (M.pure (.int 10))]))) <|
    M.seq (M.exp (M.mO 1 gApp [M.op2 dAdd (M.op2 dAdd (M.get 5) (M.mt "str" dJoin (M.pure (.str (mk []))) (M.list [M.lc (M.src (M.get 3)) (M.lcTurn [6] (M.setD 6) (M.pure true) (M.callL m__law_code [.val ⟨true, true, true, false⟩] [.v (M.get 6)]))]))) (M.op2 dMul (M.pure (.str (mk [46, 46]))) (M.op2 dSub (M.pure (.int 3)) (M.bltL dLen [M.get 3])))])) <|
    M.nx)) <|
  M.seq (M.ret (M.bltL dTuple [M.get 1])) <|
  M.nx
theorem x__law_punched_eq : m__law_punched = runD 7 1 [] x__law_punched := by kernel_rfl
def x__law_text : M Fl :=
  M.seq (M.asg 2 (M.pure (.str (mk [])))) <|
  M.seq (M.for (M.rg dRg1 [M.callL m__law_draw [.own 0, .val ⟨true, true, true, true⟩] [.o 0, .v (M.op2 dAdd (M.get 1) (M.pure (.int 1)))]]) (M.setD 3) (
    M.seq (M.asg 4 (M.callL m__law_draw [.own 0, .val ⟨true, true, true, true⟩] [.o 0, .v (M.pure (.int 96))])) <|
    M.seq (M.asg 2 (M.op2 dAdd (M.get 2) (M.ife (M.cmpB (M.op2 dEq (M.get 4) (M.pure (.int 95)))) (M.pure (.str (mk [10]))) (M.op2 dIx (M.call0 m__law_signs) (M.get 4))))) <|
    M.nx)) <|
  M.seq (M.ret (M.get 2)) <|
  M.nx
theorem x__law_text_eq : m__law_text = runD 5 2 [0] x__law_text := by kernel_rfl
def x__law_bent : M Fl :=
  M.seq (M.asg 2 (M.callL m__law_draw [.own 0, .val ⟨true, true, true, true⟩] [.o 0, .v (M.bltL dLen [M.get 1])])) <|
  M.seq (M.asg 3 (M.op2 dIx (M.get 1) (M.get 2))) <|
  M.seq (M.asgO 4 (M.lstL [M.op2 dAdd (M.op2 dAdd (M.cut (M.get 3) (M.noI) (M.someI (M.pure (.int 2)))) (M.pure (.str (mk [57, 54])))) (M.cut (M.get 3) (M.someI (M.pure (.int 4))) (M.noI)), M.op2 dAdd (M.op2 dAdd (M.cut (M.get 3) (M.noI) (M.someI (M.pure (.int 2)))) (M.pure (.str (mk [120, 48])))) (M.cut (M.get 3) (M.someI (M.pure (.int 4))) (M.noI)), M.op2 dAdd (M.cut (M.get 3) (M.noI) (M.someI (M.pure (.int 2)))) (M.pure (.str (mk [46, 46, 46, 46, 46, 46])))])) <|
  M.seq (M.exp (M.mO 4 gApp [M.op2 dAdd (M.op2 dAdd (M.op2 dAdd (M.cut (M.get 3) (M.noI) (M.someI (M.pure (.int 2)))) (M.pure (.str (mk [46, 46])))) (M.cut (M.get 3) (M.someI (M.pure (.int 4))) (M.someI (M.pure (.int 6))))) (M.pure (.str (mk [48, 48])))])) <|
  M.seq (M.asgO 4 (M.op2 dAdd (M.get 4) (M.lstL [M.op2 dAdd (M.op2 dAdd (M.cut (M.get 3) (M.noI) (M.someI (M.pure (.int 2)))) (M.pure (.str (mk [48, 46])))) (M.cut (M.get 3) (M.someI (M.pure (.int 4))) (M.noI)), M.op2 dAdd (M.pure (.str (mk [120]))) (M.cut (M.get 3) (M.someI (M.pure (.int 1))) (M.noI)), M.op2 dAdd (M.op2 dAdd (M.cut (M.get 3) (M.noI) (M.someI (M.pure (.int 1)))) (M.pure (.str (mk [46])))) (M.cut (M.get 3) (M.someI (M.pure (.int 2))) (M.noI))]))) <|
  M.seq (M.exp (M.mO 4 gApp [M.op2 dAdd (M.op2 dAdd (M.cut (M.get 3) (M.noI) (M.someI (M.pure (.int 1)))) (M.bltL dStr [M.op2 dMod (M.bltL dInt [M.op2 dAdd (M.bltL dInt [M.op2 dIx (M.get 3) (M.pure (.int 1))]) (M.pure (.int 1))]) (M.pure (.int 10))])) (M.cut (M.get 3) (M.someI (M.pure (.int 2))) (M.noI))])) <|
  M.seq (M.ife (M.cmpB (M.op2 dLt (M.get 2) (M.op2 dSub (M.bltL dLen [M.get 1]) (M.pure (.int 1))))) (
    M.seq (M.asgO 4 (M.op2 dAdd (M.get 4) (M.lstL [M.op2 dAdd (M.cut (M.get 3) (M.noI) (M.someI (M.pure (.int 6)))) (M.pure (.str (mk [46, 46]))), M.op2 dAdd (M.cut (M.get 3) (M.noI) (M.someI (M.pure (.int 4)))) (M.pure (.str (mk [46, 46, 46, 46])))]))) <|
    M.nx) (M.nx)) <|
  M.seq (M.ret (M.tupL [M.op2 dAdd (M.op2 dAdd (M.cut (M.get 1) (M.noI) (M.someI (M.get 2))) (M.tupL [M.callL m__law_any_1 [.own 0, .own 4] [.o 0, .o 4]])) (M.cut (M.get 1) (M.someI (M.op2 dAdd (M.get 2) (M.pure (.int 1)))) (M.noI)), M.get 2])) <|
  M.nx
theorem x__law_bent_eq : m__law_bent = runD 5 2 [0] x__law_bent := by kernel_rfl
def x_law : M Fl :=
  M.seq (M.asgO 1 (M.callL m__law_hand [.val ⟨true, true, true, false⟩] [.v (M.get 0)])) <|
  M.seq (M.for (M.rg dRg1 [M.pure (.int 5)]) (M.setD 2) (
    M.seq (M.asg 3 (M.callL m__law_text [.own 1, .val ⟨true, true, true, false⟩] [.o 1, .v (M.callL m__law_any [.own 1, .val ⟨true, true, true, true⟩] [.o 1, .v (M.lstL [M.pure (.int 5), M.pure (.int 30), M.pure (.int 400)])])])) <|
    M.seq (M.asg 4 (M.callL m__law_punched [.val ⟨true, true, true, false⟩] [.v (M.get 3)])) <|
    M.seq (M.ife (M.bor (M.cmpB (M.op2 dNe (M.callL m_text_deck [.val ⟨true, true, true, false⟩] [.v (M.get 3)]) (M.get 4))) (M.bor (M.cmpB (M.op2 dNe (M.callL m_text_of_deck [.val ⟨true, true, true, false⟩] [.v (M.get 4)]) (M.get 3))) (M.cmpB (M.op2 dIsNot (M.callL m_is_deck [.val ⟨true, true, true, true⟩, .val ⟨true, true, true, false⟩] [.v (M.pure (.int 8)), .v (M.get 4)]) (M.pure (.bool true)))))) (
      M.seq (M.ret (M.pure (.bool false))) <|
      M.nx) (M.nx)) <|
    M.seq (M.ife (M.cmpB (M.op2 dIsNot (M.callL m_is_punched_text [.val ⟨true, true, true, false⟩] [.v (M.get 4)]) (M.pure (.bool true)))) (
      M.seq (M.ret (M.pure (.bool false))) <|
      M.nx) (M.nx)) <|
    M.seq (M.ife (M.cmpB (M.op2 dNe (M.get 4) (M.tupL []))) (
      M.seq (M.asgT (M.setTup 2 (M.setCons (M.setD 5) (M.setCons (M.setD 6) (M.setNil)))) (M.callL m__law_bent [.own 1, .val ⟨true, true, true, false⟩] [.o 1, .v (M.get 4)])) <|
      M.seq (M.ife (M.bor (M.cmpB (M.op2 dNe (M.lamW (mk [108, 101, 116]) h__law_word (M.callL m_text_of_deck [.val ⟨true, true, true, false⟩] [.v (M.get 5)])) (M.get 6))) (M.cmpB (M.op2 dIsNot (M.callL m_is_punched_text [.val ⟨true, true, true, false⟩] [.v (M.get 5)]) (M.pure (.bool false))))) (
        M.seq (M.ret (M.pure (.bool false))) <|
        M.nx) (M.nx)) <|
      M.nx) (M.nx)) <|
    M.seq (M.asg 7 (M.callL m__law_any [.own 1, .val ⟨true, true, true, true⟩] [.o 1, .v (M.lstL [M.pure (.none), M.bltL dList [M.get 4], M.op2 dAdd (M.get 4) (M.tupL [M.pure (.str (mk [49, 50]))]), M.op2 dAdd (M.get 4) (M.tupL [M.pure (.int 12345678)]), M.mt "str" dJoin (M.pure (.str (mk []))) (M.list [M.get 4]), M.op2 dMul (M.tupL [M.pure (.str (mk [46, 46, 46, 46, 46, 46, 46, 46]))]) (M.pure (.int 401))])])) <|
    M.seq (M.ife (M.bor (M.cmpB (M.op2 dNe (M.lamW (mk [108, 101, 116]) h__law_word (M.callL m_text_of_deck [.val ⟨true, true, true, false⟩] [.v (M.get 7)])) (M.pure (.str (mk [100, 101, 99, 107]))))) (M.cmpB (M.op2 dIsNot (M.callL m_is_punched_text [.val ⟨true, true, true, false⟩] [.v (M.get 7)]) (M.pure (.bool false))))) (
      M.seq (M.ret (M.pure (.bool false))) <|
      M.nx) (M.nx)) <|
    M.seq (M.ife (M.cmpB (M.op2 dNe (M.lamW (mk [108, 101, 116]) h__law_word (M.callL m_text_deck [.val ⟨true, true, true, false⟩] [.v (M.callL m__law_any [.own 1, .val ⟨true, true, true, true⟩] [.o 1, .v (M.lstL [M.pure (.none), M.pure (.int 0), M.lstL [M.pure (.str (mk [97]))], M.tupL [M.pure (.str (mk [97]))], M.pure (.bool true), M.op2 dMul (M.pure (.str (mk [97]))) (M.pure (.int 20001))])])])) (M.pure (.str (mk [116, 101, 120, 116]))))) (
      M.seq (M.ret (M.pure (.bool false))) <|
      M.nx) (M.nx)) <|
    M.seq (M.ife (M.cmpB (M.op2 dNe (M.lamW (mk [108, 101, 116]) h__law_word (M.callL m_text_deck [.val ⟨true, true, true, true⟩] [.v (M.op2 dMul (M.pure (.str (mk [97]))) (M.op2 dAdd (M.pure (.int 1201)) (M.callL m__law_draw [.own 1, .val ⟨true, true, true, true⟩] [.o 1, .v (M.pure (.int 99))])))])) (M.tupL [M.pure (.str (mk [109, 97, 110, 121])), M.pure (.int 1200)]))) (
      M.seq (M.ret (M.pure (.bool false))) <|
      M.nx) (M.nx)) <|
    M.nx)) <|
  M.seq (M.ret (M.op2 dEq (M.bltL dLen [M.callL m_text_deck [.val ⟨true, true, true, true⟩] [.v (M.op2 dMul (M.pure (.str (mk [98]))) (M.pure (.int 1200)))]]) (M.pure (.int 400)))) <|
  M.nx
theorem x_law_eq : m_law = runD 8 1 [] x_law := by kernel_rfl
end E
end
section
set_option Elab.async false
set_option linter.all false
set_option maxRecDepth 100000
set_option maxHeartbeats 4000000
open PySem PySem.Spec L2 Cr
local macro_rules | `(tactic| walk_at "side") => `(tactic| first | assumption | decide | (simp only [sizeLine_eq, List.length_append, List.length_cons, List.length_nil, List.length_map, List.length_take, List.length_drop, List.length_replicate, Nat.zero_add]; omega) | (constructor <;> first | omega | decide))
local macro_rules | `(tactic| walk_at "m1") => `(tactic| first
  | with_reducible refine w_seq ?_
  | with_reducible refine k_nx ?_
  | with_reducible refine k_rt ?_
  | with_reducible refine k_bk ?_
  | with_reducible refine k_ct ?_
  | with_reducible refine w_pure ?_
  | ((with_reducible refine' w_get ?e ?_); (case e => exact rfl))
  | with_reducible refine w_asg ?_
  | with_reducible refine w_asgO ?_
  | with_reducible refine k_o ?_
  | with_reducible refine w_asgT ?_
  | with_reducible refine w_aug ?_
  | with_reducible refine w_ret ?_
  | with_reducible refine w_nx ?_
  | with_reducible refine w_exp ?_
  | with_reducible refine w_ife ?_
  | with_reducible refine w_band ?_
  | with_reducible refine w_bor ?_
  | with_reducible refine w_bnot ?_
  | with_reducible refine w_cmpB ?_
  | with_reducible refine w_tru ?_
  | with_reducible refine w_dB ?_
  | with_reducible refine w_dTru ?_
  | with_reducible refine w_andV ?_
  | with_reducible refine w_orV ?_
  | with_reducible refine k_and ?_
  | with_reducible refine k_or ?_
  | with_reducible refine k_not ?_
  | with_reducible refine w_notV ?_
  | with_reducible refine w_chain ?_
  | with_reducible refine w_op2 ?_
  | with_reducible refine w_op1 ?_
  | with_reducible refine w_tupL ?_
  | with_reducible refine w_lstL ?_
  | with_reducible refine w_nil ?_
  | with_reducible refine w_cons ?_
  | with_reducible refine w_anil ?_
  | with_reducible refine w_av ?_
  | with_reducible refine w_ao ?_
  | with_reducible refine w_callL ?_
  | with_reducible refine w_callRL ?_
  | ((with_reducible refine w_chk ?e ?_); (case e => exact rfl))
  | with_reducible refine w_bltL ?_
  | with_reducible refine w_isiI ?_
  | with_reducible refine w_isiB ?_
  | with_reducible refine w_isiS ?_
  | with_reducible refine w_isiL ?_
  | with_reducible refine w_isiT ?_
  | with_reducible refine w_cut ?_
  | with_reducible refine w_noI ?_
  | with_reducible refine w_someI ?_
  | with_reducible refine w_dI ?_
  | with_reducible refine w_ixO ?_
  | with_reducible refine w_setIx ?_
  | with_reducible refine w_par ?_
  | with_reducible refine w_setD ?_
  | with_reducible refine w_setO ?_
  | with_reducible refine w_setNil ?_
  | with_reducible refine w_setCons ?_
  | ((with_reducible refine w_setTup ?e ?_); (case e => exact rfl))
  | with_reducible refine w_mO ?_
  | ((with_reducible refine' w_app ?e ?l ?_); (case e => exact rfl); (case l => walk_at "side"))
  | ((with_reducible refine' w_ext ?e ?l ?_); (case e => exact rfl); (case l => walk_at "side"))
  | with_reducible refine w_lc ?_
  | with_reducible refine w_for ?_
  | with_reducible refine w_src ?_
  | with_reducible refine w_srcL ?_
  | with_reducible refine w_srcT ?_
  | with_reducible refine w_srcS ?_
  | ((with_reducible refine' w_srcOwn ?e ?_); (case e => exact rfl))
  | with_reducible refine w_rg ?_
  | with_reducible refine w_enum ?_
  | with_reducible refine w_zip ?_
  | with_reducible refine w_raise ?_
  | with_reducible refine w_raise1 ?_
  | with_reducible refine o_add ?_
  | with_reducible refine o_iadd ?_
  | with_reducible refine o_sub ?_
  | with_reducible refine o_neg ?_
  | ((with_reducible refine o_mul ?e ?_); (case e => first | exact mulOk_r (by omega) | exact mulOk_l (by omega)))
  | ((with_reducible refine o_div ?e ?_); (case e => decide))
  | ((with_reducible refine o_div2 ?e ?_); (case e => constructor <;> omega))
  | ((with_reducible refine o_mod ?e ?_); (case e => first | decide | omega))
  | ((with_reducible refine o_pow ?e ?_); (case e => decide))
  | ((with_reducible refine' o_ixL ?e ?_); (case e => exact rfl))
  | ((with_reducible refine' o_ixT ?e ?_); (case e => exact rfl))
  | ((with_reducible refine' w_putIx ?e ?f ?_); (case e => exact rfl); (case f => exact rfl))
  | with_reducible refine o_abs ?_
  | with_reducible refine o_lt ?_
  | with_reducible refine o_le ?_
  | with_reducible refine o_gt ?_
  | with_reducible refine o_ge ?_
  | with_reducible refine o_eqI ?_
  | with_reducible refine o_neI ?_
  | with_reducible refine o_eqS ?_
  | with_reducible refine o_neS ?_
  | with_reducible refine o_int ?_
  | with_reducible refine o_isN ?_
  | with_reducible refine o_isNotN ?_
  | with_reducible refine o_isB ?_
  | with_reducible refine o_isNotB ?_
  | ((with_reducible refine o_addS ?e ?_); (case e => walk_at "side"))
  | ((with_reducible refine o_iaddS ?e ?_); (case e => walk_at "side"))
  | ((with_reducible refine o_addL ?e ?_); (case e => walk_at "side"))
  | ((with_reducible refine o_addT ?e ?_); (case e => walk_at "side"))
  | with_reducible refine o_inC ?_
  | with_reducible refine o_niC ?_
  | ((with_reducible refine o_lenS ?e ?_); (case e => walk_at "side"))
  | with_reducible refine o_lenL ?_
  | with_reducible refine o_lenT ?_
  | with_reducible refine o_ord ?_
  | ((with_reducible refine o_cutS ?e ?_); (case e => walk_at "side"))
  | with_reducible refine o_cutL ?_
  | with_reducible refine o_cutT ?_
  | with_reducible refine o_cutX ?_
  | ((with_reducible refine o_tup ?e ?_); (case e => walk_at "side"))
  | ((with_reducible refine o_lst ?e ?_); (case e => walk_at "side"))
  | with_reducible refine o_tuple ?_
  | with_reducible refine o_tuple2 ?_
  | with_reducible refine o_list ?_
  | with_reducible refine o_list2 ?_
  | with_reducible refine w_lamW ?_
  | ((with_reducible refine o_mulS ?e ?_); (case e => decide))
  | ((with_reducible refine o_mulT ?e ?_); (case e => exact ⟨by simp, by decide, by decide, by simp⟩))
  | with_reducible refine w_ct ?_
  | with_reducible refine w_cf ?_
  | with_reducible refine w_mt ?_
  | with_reducible refine ty_s ?_
  | with_reducible refine ty_l ?_
  | ((with_reducible refine o_rg1 ?e ?_); (case e => exact smallI_of (by omega)))
  | ((with_reducible refine o_rg2 ?e ?_); (case e => exact ⟨smallI_of (by omega), smallI_of (by omega)⟩))
  | ((with_reducible refine o_rg3 ?e ?_); (case e => exact ⟨smallI_of (by omega), smallI_of (by omega), by decide, by decide⟩))
  | with_reducible refine ke_rt0 ?_
  | with_reducible refine ke_nx0 ?_
  | (refine k_t' ?e ?_; (case e => exact rfl))
  | (refine k_f' ?e ?_; (case e => exact rfl)))
local macro_rules | `(tactic| walk_at "m") => `(tactic| repeat walk_at "m1")

namespace E
open PySem PySem.Spec L2 Cr
set_option autoImplicit false
/-! ### the hand -/
/-- what a hand looks like -/
inductive Hand : D → Prop
  | mk (cs : List Int) (i g m k : Int) (hc : ∀ c ∈ cs, 0 ≤ c) (hi : 0 ≤ i) (hg : 0 ≤ g) : Hand (.list [.list (cs.map .int), .int i, .int g, .int m, .int k])
theorem sp__law_hand {ns : List Int} {Q : D → Ev → Prop} {E : Xc → Ev → Prop} (hn : ns.length ≤ 63) (k : ∀ h ρ, Hand h → Q h ρ) : (m__law_hand [.dict [(.none, .list (ns.map .int))]]).wp Q E := by
  rw [x__law_hand_eq]
  refine w_run rfl ?_
  unfold x__law_hand
  simp only [ini, nones]
  walk_at "m"
  rw [cut_0i _ (show (0 : Int) ≤ 63 by decide), ← List.map_take, List.take_of_length_le (show ns.length ≤ Int.toNat 63 from hn)]
  refine w_lcMap ns .int (fun n => .int (if n < 0 then -n else n)) (fun n _ => turn_map ?_) ?_ rfl (by rw [sizeLine_eq]; omega)
  · simp only [wipeE, List.set]
    walk_at "m"
    exact ⟨rfl, rfl⟩
  · walk_at "m"
    refine k _ _ ?_
    have e : (ns.map fun n => (.int (if n < 0 then -n else n) : D)) = (ns.map fun n => if n < 0 then -n else n).map .int := by simp
    rw [e]
    refine .mk _ _ _ _ _ (fun c hc => ?_) (Int.le_refl _) (Int.le_refl _)
    obtain ⟨n, _, rfl⟩ := List.mem_map.mp hc
    split <;> omega
theorem sp__law_draw {h : D} {many : Int} {Q : D → Ev → Prop} {E : Xc → Ev → Prop} (hh : Hand h) (hm : 0 < many) (hm2 : many < 1000000) (k : ∀ (v : Int) h' ρ, Hand h' → 0 ≤ v → v < many → ρ[0]? = some (some h') → Q (.int v) ρ) : (m__law_draw [h, .int many]).wp Q E := by
  rw [x__law_draw_eq]
  refine w_run rfl ?_
  unfold x__law_draw
  obtain ⟨cs, i, g, m, kk, hc, hi, hg⟩ := hh
  simp only [ini, nones]
  refine w_seqI (fun ρ' => ∃ (cs : List Int) (i g m kk : Int) (o : Option D), (∀ c ∈ cs, 0 ≤ c) ∧ 0 ≤ i ∧ 0 ≤ g ∧ ρ' = [some (.list [.list (cs.map .int), .int i, .int g, .int m, .int kk]), some (.int many), o, none, none]) ?_ ?_
  · walk_at "m"
    refine k_if (fun h1 => ?_) (fun h1 => ?_)
    · walk_at "m"
      refine k_if (fun h2 => ?_) (fun h2 => ?_)
      · have h2 := of_decide_eq_true h2
        rw [List.length_map] at h2
        walk_at "m"
        have e : L2.atI (cs.map PyData.int) i = some (.int cs[i.toNat]) := by
          rw [atI_nn hi, List.getElem?_map, List.getElem?_eq_getElem (by omega)]; rfl
        refine o_ixL e ?_
        have hcell := hc _ (List.getElem_mem (l := cs) (n := i.toNat) (by omega))
        walk_at "m"
        simp only [List.set]
        walk_at "m"
        refine k_if (fun h3 => ?_) (fun h3 => ?_)
        · walk_at "m"
          exact ⟨cs, _, _, _, _, _, hc, by omega, hcell, rfl⟩
        · walk_at "m"
          exact ⟨cs, _, _, _, _, _, hc, by omega, hg, rfl⟩
      · walk_at "m"
        exact ⟨cs, i, g, m, kk, _, hc, hi, hg, rfl⟩
    · walk_at "m"
      exact ⟨cs, i, g, m, kk, _, hc, hi, hg, rfl⟩
  · rintro ρ' ⟨cs, i, g, m, kk, o, hc, hi, hg, rfl⟩
    walk_at "m"
    refine k_if (fun h1 => ?_) (fun h1 => ?_)
    · walk_at "m"
      simp only [List.set]
      walk_at "m"
      refine ke_rt rfl (k _ _ _ (.mk cs _ _ _ _ hc hi (Int.ediv_nonneg hg (by omega))) (Int.emod_nonneg _ (by omega)) (Int.emod_lt_of_pos _ hm) rfl)
    · walk_at "m"
      refine ke_rt rfl (k _ _ _ (.mk cs _ _ _ _ hc hi hg) (Int.emod_nonneg _ (by omega)) (Int.emod_lt_of_pos _ hm) rfl)
theorem Hand.live {h : D} {r : Ev} (hh : Hand h) : liveL [0] (some h :: r) = true := by cases hh; rfl
theorem Hand.lst {h : D} (hh : Hand h) : ∃ ds, h = .list ds := by cases hh; exact ⟨_, rfl⟩
theorem ko_hand {i : Nat} {Q : Fl → Ev → Prop} {h : D} {ρ : Ev} (hh : Hand h) (q : Q .nx (ρ.set i (some h))) : kO i Q h ρ := by
  obtain ⟨ds, rfl⟩ := hh.lst
  exact k_o q
theorem atI_lt {α : Type} {l : List α} {i : Int} (h0 : 0 ≤ i) (h : i < l.length) : L2.atI l i = some (l[i.toNat]'(by omega)) := by
  rw [atI_nn h0, List.getElem?_eq_getElem]
theorem sp__law_any {h : D} {some_ : List D} {Q : D → Ev → Prop} {E : Xc → Ev → Prop} (hh : Hand h) (hm : some_ ≠ []) (hm2 : some_.length < 1000000) (k : ∀ (v : D) h' ρ, Hand h' → v ∈ some_ → ρ[0]? = some (some h') → Q v ρ) : (m__law_any [h, .list some_]).wp Q E := by
  rw [x__law_any_eq]
  refine w_run rfl ?_
  unfold x__law_any
  simp only [ini, nones, Nat.reduceSub]
  walk_at "m"
  have hp : 0 < some_.length := List.length_pos_iff.mpr hm
  refine w_callO rfl rfl rfl (sp__law_draw hh (by omega) (by omega) fun v h' ρ' hh' h0 h1 e => ⟨h', e, ?_⟩)
  refine o_ixL (atI_lt h0 h1) ?_
  walk_at "m"
  exact ke_rt hh'.live (k _ _ _ hh' (List.getElem_mem _) rfl)
end E
end
section
set_option Elab.async false
set_option linter.all false
set_option maxRecDepth 100000
set_option maxHeartbeats 4000000
open PySem PySem.Spec L2 Cr
local macro_rules | `(tactic| walk_at "side") => `(tactic| first | assumption | decide | (simp only [sizeLine_eq, List.length_append, List.length_cons, List.length_nil, List.length_map, List.length_take, List.length_drop, List.length_replicate, Nat.zero_add]; omega) | (constructor <;> first | omega | decide))
local macro_rules | `(tactic| walk_at "m1") => `(tactic| first
  | with_reducible refine w_seq ?_
  | with_reducible refine k_nx ?_
  | with_reducible refine k_rt ?_
  | with_reducible refine k_bk ?_
  | with_reducible refine k_ct ?_
  | with_reducible refine w_pure ?_
  | ((with_reducible refine' w_get ?e ?_); (case e => exact rfl))
  | with_reducible refine w_asg ?_
  | with_reducible refine w_asgO ?_
  | with_reducible refine k_o ?_
  | with_reducible refine w_asgT ?_
  | with_reducible refine w_aug ?_
  | with_reducible refine w_ret ?_
  | with_reducible refine w_nx ?_
  | with_reducible refine w_exp ?_
  | with_reducible refine w_ife ?_
  | with_reducible refine w_band ?_
  | with_reducible refine w_bor ?_
  | with_reducible refine w_bnot ?_
  | with_reducible refine w_cmpB ?_
  | with_reducible refine w_tru ?_
  | with_reducible refine w_dB ?_
  | with_reducible refine w_dTru ?_
  | with_reducible refine w_andV ?_
  | with_reducible refine w_orV ?_
  | with_reducible refine k_and ?_
  | with_reducible refine k_or ?_
  | with_reducible refine k_not ?_
  | with_reducible refine w_notV ?_
  | with_reducible refine w_chain ?_
  | with_reducible refine w_op2 ?_
  | with_reducible refine w_op1 ?_
  | with_reducible refine w_tupL ?_
  | with_reducible refine w_lstL ?_
  | with_reducible refine w_nil ?_
  | with_reducible refine w_cons ?_
  | with_reducible refine w_anil ?_
  | with_reducible refine w_av ?_
  | with_reducible refine w_ao ?_
  | with_reducible refine w_callL ?_
  | with_reducible refine w_callRL ?_
  | ((with_reducible refine w_chk ?e ?_); (case e => exact rfl))
  | with_reducible refine w_bltL ?_
  | with_reducible refine w_isiI ?_
  | with_reducible refine w_isiB ?_
  | with_reducible refine w_isiS ?_
  | with_reducible refine w_isiL ?_
  | with_reducible refine w_isiT ?_
  | with_reducible refine w_cut ?_
  | with_reducible refine w_noI ?_
  | with_reducible refine w_someI ?_
  | with_reducible refine w_dI ?_
  | with_reducible refine w_ixO ?_
  | with_reducible refine w_setIx ?_
  | with_reducible refine w_par ?_
  | with_reducible refine w_setD ?_
  | with_reducible refine w_setO ?_
  | with_reducible refine w_setNil ?_
  | with_reducible refine w_setCons ?_
  | ((with_reducible refine w_setTup ?e ?_); (case e => exact rfl))
  | with_reducible refine w_mO ?_
  | ((with_reducible refine' w_app ?e ?l ?_); (case e => exact rfl); (case l => walk_at "side"))
  | ((with_reducible refine' w_ext ?e ?l ?_); (case e => exact rfl); (case l => walk_at "side"))
  | with_reducible refine w_lc ?_
  | with_reducible refine w_for ?_
  | with_reducible refine w_src ?_
  | with_reducible refine w_srcL ?_
  | with_reducible refine w_srcT ?_
  | with_reducible refine w_srcS ?_
  | ((with_reducible refine' w_srcOwn ?e ?_); (case e => exact rfl))
  | with_reducible refine w_rg ?_
  | with_reducible refine w_enum ?_
  | with_reducible refine w_zip ?_
  | with_reducible refine w_raise ?_
  | with_reducible refine w_raise1 ?_
  | with_reducible refine o_add ?_
  | with_reducible refine o_iadd ?_
  | with_reducible refine o_sub ?_
  | with_reducible refine o_neg ?_
  | ((with_reducible refine o_mul ?e ?_); (case e => first | exact mulOk_r (by omega) | exact mulOk_l (by omega)))
  | ((with_reducible refine o_div ?e ?_); (case e => decide))
  | ((with_reducible refine o_div2 ?e ?_); (case e => constructor <;> omega))
  | ((with_reducible refine o_mod ?e ?_); (case e => first | decide | omega))
  | ((with_reducible refine o_pow ?e ?_); (case e => decide))
  | ((with_reducible refine' o_ixL ?e ?_); (case e => exact rfl))
  | ((with_reducible refine' o_ixT ?e ?_); (case e => exact rfl))
  | ((with_reducible refine' w_putIx ?e ?f ?_); (case e => exact rfl); (case f => exact rfl))
  | with_reducible refine o_abs ?_
  | with_reducible refine o_lt ?_
  | with_reducible refine o_le ?_
  | with_reducible refine o_gt ?_
  | with_reducible refine o_ge ?_
  | with_reducible refine o_eqI ?_
  | with_reducible refine o_neI ?_
  | with_reducible refine o_eqS ?_
  | with_reducible refine o_neS ?_
  | with_reducible refine o_int ?_
  | with_reducible refine o_isN ?_
  | with_reducible refine o_isNotN ?_
  | with_reducible refine o_isB ?_
  | with_reducible refine o_isNotB ?_
  | ((with_reducible refine o_addS ?e ?_); (case e => walk_at "side"))
  | ((with_reducible refine o_iaddS ?e ?_); (case e => walk_at "side"))
  | ((with_reducible refine o_addL ?e ?_); (case e => walk_at "side"))
  | ((with_reducible refine o_addT ?e ?_); (case e => walk_at "side"))
  | with_reducible refine o_inC ?_
  | with_reducible refine o_niC ?_
  | ((with_reducible refine o_lenS ?e ?_); (case e => walk_at "side"))
  | with_reducible refine o_lenL ?_
  | with_reducible refine o_lenT ?_
  | with_reducible refine o_ord ?_
  | ((with_reducible refine o_cutS ?e ?_); (case e => walk_at "side"))
  | with_reducible refine o_cutL ?_
  | with_reducible refine o_cutT ?_
  | with_reducible refine o_cutX ?_
  | ((with_reducible refine o_tup ?e ?_); (case e => walk_at "side"))
  | ((with_reducible refine o_lst ?e ?_); (case e => walk_at "side"))
  | with_reducible refine o_tuple ?_
  | with_reducible refine o_tuple2 ?_
  | with_reducible refine o_list ?_
  | with_reducible refine o_list2 ?_
  | with_reducible refine w_lamW ?_
  | ((with_reducible refine o_mulS ?e ?_); (case e => decide))
  | ((with_reducible refine o_mulT ?e ?_); (case e => exact ⟨by simp, by decide, by decide, by simp⟩))
  | with_reducible refine w_ct ?_
  | with_reducible refine w_cf ?_
  | with_reducible refine w_mt ?_
  | with_reducible refine ty_s ?_
  | with_reducible refine ty_l ?_
  | ((with_reducible refine o_rg1 ?e ?_); (case e => exact smallI_of (by omega)))
  | ((with_reducible refine o_rg2 ?e ?_); (case e => exact ⟨smallI_of (by omega), smallI_of (by omega)⟩))
  | ((with_reducible refine o_rg3 ?e ?_); (case e => exact ⟨smallI_of (by omega), smallI_of (by omega), by decide, by decide⟩))
  | with_reducible refine ke_rt0 ?_
  | with_reducible refine ke_nx0 ?_
  | (refine k_t' ?e ?_; (case e => exact rfl))
  | (refine k_f' ?e ?_; (case e => exact rfl)))
local macro_rules | `(tactic| walk_at "m") => `(tactic| repeat walk_at "m1")

namespace E
open PySem PySem.Spec L2 Cr
set_option autoImplicit false
/-! ### texts and their decks -/
def cd (c : Nat) : Nat := if c = 10 then 95 else c - 32
def Sg (c : Nat) : Prop := c = 10 ∨ (32 ≤ c ∧ c < 127)
def SIGN : List Nat := [48, 49, 50, 51, 52, 53, 54, 55, 56, 57, 120, 46]
def share (l : List Nat) (i : Nat) : List Nat := (l.drop (3 * i)).take 3
def codes (s : List Nat) : List Nat := (s.map fun c => fig (cd c)).flatten
def card (l : List Nat) (i : Nat) : List Nat := fig (i % 100) ++ codes (share l i) ++ (List.replicate (3 - (share l i).length) [46, 46]).flatten
def deck (l : List Nat) : List (List Nat) := (List.range ((l.length + 2) / 3)).map (card l)
section
variable {E : Xc → Ev → Prop}
theorem sp_check_width {Q : D → Ev → Prop} (k : ∀ d ρ, Q d ρ) : (m_check_width [.int 8]).wp Q E := by
  refine w_ok (ρ := [some (.int 8)]) (a := .none) ?_ (k _ _)
  kernel_rfl
theorem sp_is_few {d : D} {m : Int} {Q : D → Ev → Prop} (k : ∀ ρ, Q (.bool (match d with | .tuple ds => decide ((ds.length : Int) ≤ m) | _ => false)) ρ) : (m_is_few [d, .int m]).wp Q E := by
  rw [x_is_few_eq]
  refine w_run rfl ?_
  unfold x_is_few
  simp only [ini, nones, Nat.reduceSub]
  cases d <;> (walk_at "m"; exact k _)
theorem sp_raw_is_card_s {l : List Nat} {Q : D → Ev → Prop} (hl : l.length ≤ 100000) (k : ∀ ρ, Q (.bool (decide ((l.length : Int) = 8) && l.all fun c => decide (c ∈ SIGN))) ρ) : (m_raw_is_card [.int 8, .str (mk l)]).wp Q E := by
  rw [x_raw_is_card_eq]
  refine w_run rfl ?_
  unfold x_raw_is_card
  simp only [ini, nones, Nat.reduceSub]
  walk_at "m"
  refine k_if (fun h => ?_) (fun h => ?_)
  · walk_at "m"
    refine w_lcMap l (fun c => .str (mk [c])) (fun c => .bool (decide (c ∈ SIGN))) (fun c _ => turn_map ?_) ?_ rfl (by rw [sizeLine_eq]; omega)
    · simp only [wipeE, List.set]
      walk_at "m"
      exact ⟨rfl, rfl⟩
    · walk_at "m"
      refine o_all ?_
      walk_at "m"
      rw [h, Bool.true_and] at k
      exact k _
  · walk_at "m"
    rw [h, Bool.false_and] at k
    exact k _
theorem sp_raw_is_card_n {d : D} {Q : D → Ev → Prop} (hd : isStrD d = false) (k : ∀ ρ, Q (.bool false) ρ) : (m_raw_is_card [.int 8, d]).wp Q E := by
  rw [x_raw_is_card_eq]
  refine w_run rfl ?_
  unfold x_raw_is_card
  simp only [ini, nones, Nat.reduceSub]
  walk_at "m"
  refine k_f' hd ?_
  walk_at "m"
  exact k _
/-- is a thing a card -/
def cardB : D → Bool
  | .str z => decide ((z.cps.toList.length : Int) = 8) && z.cps.toList.all fun c => decide (c ∈ SIGN)
  | _ => false
theorem cardB_mk (l : List Nat) : cardB (.str (mk l)) = (decide ((l.length : Int) = 8) && l.all fun c => decide (c ∈ SIGN)) := by
  show (decide (((mk l).cps.toList.length : Int) = 8) && (mk l).cps.toList.all fun c => decide (c ∈ SIGN)) = _
  rw [show (mk l).cps.toList = l by simp [mk]]
/-- a thing whose text, if it is one, is not too long -/
def Fit1 (d : D) : Prop := ∀ z, d = .str z → z.cps.toList.length ≤ 100000
theorem sp_raw_is_card {d : D} {Q : D → Ev → Prop} (hd : Fit1 d) (k : ∀ ρ, Q (.bool (cardB d)) ρ) : (m_raw_is_card [.int 8, d]).wp Q E := by
  cases d with
  | str z =>
    obtain ⟨l, rfl⟩ := mk_surj z
    refine sp_raw_is_card_s (by have := hd _ rfl; simpa [mk] using this) fun ρ => ?_
    rw [← cardB_mk]; exact k ρ
  | _ => exact sp_raw_is_card_n rfl k
def deckB : D → Bool
  | .tuple ds => decide ((ds.length : Int) ≤ 400) && ds.all cardB
  | _ => false
def FitT (d : D) : Prop := ∀ ds, d = .tuple ds → ∀ x ∈ ds, Fit1 x
theorem sp_raw_is_deck {d : D} {Q : D → Ev → Prop} (hd : FitT d) (k : ∀ ρ, Q (.bool (deckB d)) ρ) : (m_raw_is_deck [.int 8, d]).wp Q E := by
  rw [x_raw_is_deck_eq]
  refine w_run rfl ?_
  unfold x_raw_is_deck
  simp only [ini, nones, Nat.reduceSub]
  walk_at "m"
  refine w_callP rfl rfl (sp_is_few fun _ => ?_)
  cases d with
  | tuple ds =>
    walk_at "m"
    refine k_if (fun h => ?_) (fun h => ?_)
    · have hl := of_decide_eq_true h
      walk_at "m"
      have e : ds = ds.map id := by simp
      rw [e]
      refine w_lcMap ds id (fun x => .bool (cardB x)) (fun x hx => turn_map ?_) ?_ rfl (by rw [sizeLine_eq]; omega)
      · simp only [wipeE, List.set, id]
        walk_at "m"
        refine w_callP rfl rfl (sp_raw_is_card (hd _ rfl x hx) fun _ => ?_)
        exact ⟨rfl, by simp only [restE, List.set]; rfl⟩
      · walk_at "m"
        refine o_all ?_
        walk_at "m"
        have := k [some (.int 8), some (.tuple (ds.map id)), none]
        unfold deckB at this
        have h : decide ((ds.length : Int) ≤ 400) = true := h
        simp only [h, Bool.true_and] at this
        simpa using this
    · walk_at "m"
      have := k [some (.int 8), some (.tuple ds), none]
      unfold deckB at this
      have h : decide ((ds.length : Int) ≤ 400) = false := h
      simp only [h, Bool.false_and] at this
      exact this
  | _ => (walk_at "m"; exact k _)
theorem sp_is_deck {d : D} {Q : D → Ev → Prop} (hd : FitT d) (k : ∀ ρ, Q (.bool (deckB d)) ρ) : (m_is_deck [.int 8, d]).wp Q E := by
  rw [x_is_deck_eq]
  refine w_run rfl ?_
  unfold x_is_deck
  simp only [ini, nones, Nat.reduceSub]
  walk_at "m"
  refine w_callP rfl rfl (sp_check_width fun _ _ => ?_)
  walk_at "m"
  refine w_callP rfl rfl (sp_raw_is_deck hd fun _ => ?_)
  walk_at "m"
  exact k _
theorem sp_check_text_ok {l : List Nat} {Q : D → Ev → Prop} (hl : l.length ≤ 20000) (k : ∀ d ρ, Q d ρ) : (m_check_text [.str (mk l)]).wp Q E := by
  rw [x_check_text_eq]
  refine w_run rfl ?_
  unfold x_check_text
  simp only [ini, nones, Nat.reduceSub]
  walk_at "m"
  refine k_f' (decide_eq_false (by omega)) ?_
  walk_at "m"
  exact k _ _
theorem sp_check_text_no {d : D} {Q : D → Ev → Prop} (hd : isStrD d = false ∨ ∃ l, d = .str (mk l) ∧ 20000 < l.length ∧ l.length ≤ 100000) (k : ∀ ρ, E ⟨"NoText", none⟩ ρ) : (m_check_text [d]).wp Q E := by
  rw [x_check_text_eq]
  refine w_run rfl ?_
  unfold x_check_text
  simp only [ini, nones, Nat.reduceSub]
  rcases hd with hd | ⟨l, rfl, h1, h2⟩
  · walk_at "m"
    rw [hd]
    walk_at "m"
    exact ⟨rfl, k _⟩
  · walk_at "m"
    refine k_t' (decide_eq_true (by omega)) ?_
    walk_at "m"
    exact ⟨rfl, k _⟩
theorem sp_code_of {c : Nat} {Q : D → Ev → Prop} (hc : Sg c) (k : ∀ ρ, Q (.str (mk (fig (cd c)))) ρ) : (m_code_of [.str (mk [c])]).wp Q E := by
  rw [x_code_of_eq]
  refine w_run rfl ?_
  unfold x_code_of
  simp only [ini, nones, Nat.reduceSub]
  have hb : cd c ≤ 95 := by unfold cd; rcases hc with h | h <;> split <;> omega
  refine w_seqI (fun ρ' => ρ' = [some (.str (mk [c])), some (.int (cd c : Nat))]) ?_ ?_
  · walk_at "m"
    refine k_if (fun h => ?_) (fun h => ?_)
    · have h : c = 10 := by simpa using h
      walk_at "m"
      show _ = _
      subst h; rfl
    · have h : c ≠ 10 := by simpa using h
      walk_at "m"
      show _ = _
      simp only [List.set]
      have : (c : Int) - 32 = (cd c : Nat) := by unfold cd; rw [if_neg h]; rcases hc with h | h <;> omega
      rw [this]
  · rintro ρ' rfl
    walk_at "m"
    refine o_ixS (by walk_at "side") (fig_ix (by omega) (by omega)) ?_
    walk_at "m"
    refine o_ixS (by walk_at "side") (fig_ix (by omega) (by omega)) ?_
    walk_at "m"
    have e : [48 + ((cd c : Nat) / 10 : Int).toNat] ++ [48 + ((cd c : Nat) % 10 : Int).toNat] = fig (cd c) := by
      unfold fig; simp only [List.singleton_append]; congr 1
    rw [e]
    exact k _
theorem sp_is_coded {c : Nat} {Q : D → Ev → Prop} (hc : Sg c) (k : ∀ ρ, Q (.bool true) ρ) : (m_is_coded [.str (mk [c])]).wp Q E := by
  rw [x_is_coded_eq]
  refine w_run rfl ?_
  unfold x_is_coded
  simp only [ini, nones, Nat.reduceSub]
  walk_at "m"
  refine k_if (fun h => ?_) (fun h => ?_)
  · walk_at "m"
    exact k _
  · have h : c ≠ 10 := by simpa using h
    have hc : 32 ≤ c ∧ c < 127 := hc.resolve_left h
    walk_at "m"
    refine k_ch (fun _ => ?_) (fun h => ?_)
    · walk_at "m"
      rw [decide_eq_true (by omega)]
      exact k _
    · have := of_decide_eq_false h; omega
theorem cnt3 (n : Nat) : cnt 0 (n : Int) 3 = (n + 2) / 3 := by
  unfold cnt
  by_cases h : 0 < n
  · rw [if_pos (by omega)]; omega
  · rw [if_neg (by omega)]; omega
theorem cut_share (l : List Nat) (i : Nat) : cutD l (some (0 + (i : Int) * 3)) (some (0 + (i : Int) * 3 + 3)) = share l i := by
  rw [cut_ii _ (by omega) (by omega), List.drop_take]
  unfold share
  rw [show (0 + (i : Int) * 3).toNat = 3 * i by omega, show (0 + (i : Int) * 3 + 3).toNat - 3 * i = 3 by omega]
theorem codes_len (s : List Nat) : (codes s).length = 2 * s.length := by
  unfold codes
  induction s with
  | nil => rfl
  | cons c r ih => simp only [List.map_cons, List.flatten_cons, List.length_append, ih, List.length_cons]; simp [fig]; omega
theorem share_len (l : List Nat) (i : Nat) : (share l i).length ≤ 3 := by unfold share; rw [List.length_take]; omega
theorem share_mem {l : List Nat} {i c : Nat} (h : c ∈ share l i) : c ∈ l := List.mem_of_mem_drop (List.mem_of_mem_take h)
theorem sum_map_const {α : Type} {f : α → Nat} {n : Nat} : ∀ {xs : List α}, (∀ x ∈ xs, f x = n) → (xs.map f).sum = xs.length * n
  | [], _ => by simp
  | x :: r, h => by
    rw [List.map_cons, List.sum_cons, sum_map_const (fun y hy => h y (List.mem_cons_of_mem _ hy)), h x List.mem_cons_self, List.length_cons, Nat.add_mul]; omega
theorem join_codes (s : List Nat) : joinN [] (s.map fun c => fig (cd c)) = codes s := by rw [joinN_nil]; rfl
theorem dots_eq (n : Nat) (h : n ≤ 3) : (List.replicate ((3 : Int) - (n : Int)).toNat [46, 46]).flatten = (List.replicate (3 - n) [46, 46]).flatten := by
  rw [show ((3 : Int) - (n : Int)).toNat = 3 - n by omega]
theorem sp_raw_text_deck {l : List Nat} {Q : D → Ev → Prop} (hl : l.length ≤ 20000) (hs : ∀ c ∈ l, Sg c) (k : ∀ ρ, Q (strT (deck l)) ρ) : (m_raw_text_deck [.str (mk l)]).wp Q E := by
  rw [x_raw_text_deck_eq]
  refine w_run rfl ?_
  unfold x_raw_text_deck
  simp only [ini, nones, Nat.reduceSub]
  walk_at "m"
  simp only [cnt3, List.set]
  refine w_forGo (α := Nat) (fun pre _ ρ' => ∃ o2 o3 o4 o5 o6 : Option D, ρ' = [some (.str (mk l)), some (.list ((pre.map (card l)).map fun x => .str (mk x))), o2, o3, o4, o5, o6]) (List.range ((l.length + 2) / 3)) (fun i => .int (0 + (i : Int) * 3)) ?_ ?_ ?_ ?_
  · exact ⟨_, _, _, _, _, rfl⟩
  · exact fun _ _ _ _ => rfl
  · rintro pre i post ρ' he ⟨o2, o3, o4, o5, o6, rfl⟩
    have hi : i < (l.length + 2) / 3 := List.mem_range.mp (by rw [he]; simp)
    have hpre : pre.length ≤ 20000 := by
      have := congrArg List.length he
      simp at this; omega
    have sl := share_len l i
    walk_at "m"
    simp only [cut_share, List.set]
    refine w_lcMap (share l i) (fun c => .str (mk [c])) (fun c => .str (mk (fig (cd c)))) (fun c hc => turn_map ?_) ?_ rfl (by rw [sizeLine_eq]; omega)
    · simp only [wipeE, List.set]
      walk_at "m"
      exact w_callP rfl rfl (sp_code_of (hs c (share_mem hc)) fun _ => ⟨rfl, rfl⟩)
    · walk_at "m"
      have e1 : ((share l i).map fun c => (.str (mk (fig (cd c))) : D)) = ((share l i).map fun c => fig (cd c)).map fun x => .str (mk x) := by simp
      rw [e1]
      refine o_join ?_ ?_
      · rw [List.map_map, show ((fun x : List Nat => x.length) ∘ fun c => fig (cd c)) = fun _ => 2 from rfl, sum_map_const (n := 2) (fun _ _ => rfl)]; simp; omega
      rw [join_codes]
      walk_at "m"
      refine o_ixS (by walk_at "side") (fig_ix (by omega) (by omega)) ?_
      walk_at "m"
      refine o_ixS (by walk_at "side") (fig_ix (by omega) (by omega)) ?_
      walk_at "m"
      have e2 : [48 + ((0 + (i : Int) * 3) / 3 % 100 / 10).toNat] ++ [48 + ((0 + (i : Int) * 3) / 3 % 100 % 10).toNat] = fig (i % 100) := by
        rw [show ((0 + (i : Int) * 3) / 3 % 100 / 10).toNat = i % 100 / 10 by omega, show ((0 + (i : Int) * 3) / 3 % 100 % 10).toNat = i % 100 % 10 by omega]; rfl
      rw [e2]
      have cl := codes_len (share l i)
      refine o_addS ?_ ?_
      · rw [cl, sizeLine_eq]; simp [fig]; omega
      walk_at "m"
      simp only [cut_share]
      walk_at "m"
      refine o_mulS ⟨by omega, by omega, by rw [sizeLine_eq]; simp; omega⟩ ?_
      rw [dots_eq _ sl]
      refine o_addS ?_ ?_
      · rw [sizeLine_eq]; simp [fig, cl]; omega
      walk_at "m"
      simp only [List.set, List.map_append, List.map_cons, List.map_nil]
      exact ⟨_, _, _, _, _, rfl⟩
  · rintro ρ' ⟨o2, o3, o4, o5, o6, rfl⟩
    walk_at "m"
    exact k _
theorem all_true {α : Type} {xs : List α} {p : α → Bool} (h : ∀ x ∈ xs, p x = true) : xs.all p = true := List.all_eq_true.mpr h
theorem sp_text_deck {l : List Nat} {Q : D → Ev → Prop} (hl : l.length ≤ 1200) (hs : ∀ c ∈ l, Sg c) (k : ∀ ρ, Q (strT (deck l)) ρ) : (m_text_deck [.str (mk l)]).wp Q E := by
  rw [x_text_deck_eq]
  refine w_run rfl ?_
  unfold x_text_deck
  simp only [ini, nones, Nat.reduceSub]
  walk_at "m"
  refine w_callP rfl rfl (sp_check_text_ok (by omega) fun _ _ => ?_)
  walk_at "m"
  refine w_lcMap l (fun c => .str (mk [c])) (fun c => .bool true) (fun c hc => turn_map ?_) ?_ rfl (by rw [sizeLine_eq]; omega)
  · simp only [wipeE, List.set]
    walk_at "m"
    exact w_callP rfl rfl (sp_is_coded (hs c hc) fun _ => ⟨rfl, rfl⟩)
  walk_at "m"
  refine o_all (p := fun _ => true) ?_
  rw [all_true fun _ _ => rfl]
  walk_at "m"
  refine k_f' (decide_eq_false (by omega)) ?_
  walk_at "m"
  refine w_callP rfl rfl (sp_raw_text_deck (by omega) hs fun _ => ?_)
  walk_at "m"
  exact k _
theorem sp_text_deck_many {l : List Nat} {Q : D → Ev → Prop} (h0 : 1200 < l.length) (hl : l.length ≤ 20000) (hs : ∀ c ∈ l, Sg c) (k : ∀ ρ, E ⟨"TooMany", some ("most", .int 1200)⟩ ρ) : (m_text_deck [.str (mk l)]).wp Q E := by
  rw [x_text_deck_eq]
  refine w_run rfl ?_
  unfold x_text_deck
  simp only [ini, nones, Nat.reduceSub]
  walk_at "m"
  refine w_callP rfl rfl (sp_check_text_ok (by omega) fun _ _ => ?_)
  walk_at "m"
  refine w_lcMap l (fun c => .str (mk [c])) (fun c => .bool true) (fun c hc => turn_map ?_) ?_ rfl (by rw [sizeLine_eq]; omega)
  · simp only [wipeE, List.set]
    walk_at "m"
    exact w_callP rfl rfl (sp_is_coded (hs c hc) fun _ => ⟨rfl, rfl⟩)
  walk_at "m"
  refine o_all (p := fun _ => true) ?_
  rw [all_true fun _ _ => rfl]
  walk_at "m"
  refine k_t' (decide_eq_true (by omega)) ?_
  walk_at "m"
  exact ⟨rfl, k _⟩
theorem sp_text_deck_no {d : D} {Q : D → Ev → Prop} (hd : isStrD d = false ∨ ∃ l, d = .str (mk l) ∧ 20000 < l.length ∧ l.length ≤ 100000) (k : ∀ ρ, E ⟨"NoText", none⟩ ρ) : (m_text_deck [d]).wp Q E := by
  rw [x_text_deck_eq]
  refine w_run rfl ?_
  unfold x_text_deck
  simp only [ini, nones, Nat.reduceSub]
  walk_at "m"
  exact w_callP rfl rfl (sp_check_text_no hd fun _ => ⟨rfl, k _⟩)
/-! ### reading -/
def SGN : List Nat := (List.range 95).map (32 + ·)
/-- the number of two signs, if they are figures -/
def num2 (a b : Nat) : Option Nat := if a ∈ FIGS ∧ b ∈ FIGS then some (10 * (a - 48) + (b - 48)) else none
def sgn1 (a b : Nat) : Option Nat := match num2 a b with
  | none => none
  | some n => if 95 < n then none else if n = 95 then some 10 else some (32 + n)
theorem six_fig {c : Nat} (h : c ∈ FIGS) : dSix (.str (mk [48, 49, 50, 51, 52, 53, 54, 55, 56, 57])) [.str (mk [c])] = some (.int ((c - 48 : Nat) : Int)) := by
  have : c = 48 ∨ c = 49 ∨ c = 50 ∨ c = 51 ∨ c = 52 ∨ c = 53 ∨ c = 54 ∨ c = 55 ∨ c = 56 ∨ c = 57 := by simpa [FIGS] using h
  rcases this with rfl | rfl | rfl | rfl | rfl | rfl | rfl | rfl | rfl | rfl <;> kernel_rfl
def optS : Option Nat → D
  | some c => .str (mk [c])
  | none => .none
theorem sgn_ix {n : Nat} (h : n < 95) : L2.atI ((32 :: 33 :: 34 :: 35 :: 36 :: 37 :: 38 :: 39 :: 40 :: 41 :: 42 :: 43 :: 44 :: 45 :: 46 :: 47 :: 48 :: 49 :: 50 :: 51 :: 52 :: 53 :: 54 :: 55 :: 56 :: 57 :: 58 :: 59 :: 60 :: 61 :: 62 :: 63 :: 64 :: []) ++ (65 :: 66 :: 67 :: 68 :: 69 :: 70 :: 71 :: 72 :: 73 :: 74 :: 75 :: 76 :: 77 :: 78 :: 79 :: 80 :: 81 :: 82 :: 83 :: 84 :: 85 :: 86 :: 87 :: 88 :: 89 :: 90 :: 91 :: 92 :: 93 :: 94 :: 95 :: 96 :: 97 :: 98 :: 99 :: 100 :: 101 :: 102 :: 103 :: 104 :: 105 :: 106 :: 107 :: 108 :: 109 :: 110 :: 111 :: 112 :: 113 :: 114 :: 115 :: 116 :: 117 :: 118 :: 119 :: 120 :: 121 :: 122 :: 123 :: 124 :: 125 :: 126 :: [])) (n : Int) = some (32 + n) := by
  have e : ((32 :: 33 :: 34 :: 35 :: 36 :: 37 :: 38 :: 39 :: 40 :: 41 :: 42 :: 43 :: 44 :: 45 :: 46 :: 47 :: 48 :: 49 :: 50 :: 51 :: 52 :: 53 :: 54 :: 55 :: 56 :: 57 :: 58 :: 59 :: 60 :: 61 :: 62 :: 63 :: 64 :: []) ++ (65 :: 66 :: 67 :: 68 :: 69 :: 70 :: 71 :: 72 :: 73 :: 74 :: 75 :: 76 :: 77 :: 78 :: 79 :: 80 :: 81 :: 82 :: 83 :: 84 :: 85 :: 86 :: 87 :: 88 :: 89 :: 90 :: 91 :: 92 :: 93 :: 94 :: 95 :: 96 :: 97 :: 98 :: 99 :: 100 :: 101 :: 102 :: 103 :: 104 :: 105 :: 106 :: 107 :: 108 :: 109 :: 110 :: 111 :: 112 :: 113 :: 114 :: 115 :: 116 :: 117 :: 118 :: 119 :: 120 :: 121 :: 122 :: 123 :: 124 :: 125 :: 126 :: [])) = (List.range 95).map (32 + ·) := by decide
  rw [e, atI_nn (by omega), Int.toNat_natCast, List.getElem?_map, List.getElem?_range h]; rfl
theorem sp_sign_of {a b : Nat} {Q : D → Ev → Prop} (k : ∀ ρ, Q (optS (sgn1 a b)) ρ) : (m_sign_of [.str (mk [a, b])]).wp Q E := by
  rw [x_sign_of_eq]
  refine w_run rfl ?_
  unfold x_sign_of
  simp only [ini, nones, Nat.reduceSub]
  walk_at "m"
  refine w_lcMap [a, b] (fun c => .str (mk [c])) (fun c => .bool (decide (c ∈ FIGS))) (fun c hc => turn_map ?_) ?_ rfl (by rw [sizeLine_eq]; simp)
  · simp only [wipeE, List.set]
    walk_at "m"
    exact ⟨rfl, rfl⟩
  walk_at "m"
  refine o_all ?_
  walk_at "m"
  refine k_if (fun h => ?_) (fun h => ?_)
  · walk_at "m"
    have : num2 a b = none := by
      unfold num2
      rw [if_neg]
      intro ⟨h1, h2⟩
      rw [all_true (fun x hx => ?_)] at h
      · cases h
      · simp at hx; rcases hx with rfl | rfl
        · exact decide_eq_true h1
        · exact decide_eq_true h2
    unfold sgn1 at k
    rw [this] at k
    exact k _
  · have h : [a, b].all (fun c => decide (c ∈ FIGS)) = true := by simpa using h
    have ha : a ∈ FIGS := of_decide_eq_true (List.all_eq_true.mp h a (by simp))
    have hb : b ∈ FIGS := of_decide_eq_true (List.all_eq_true.mp h b (by simp))
    have hn : num2 a b = some (10 * (a - 48) + (b - 48)) := if_pos ⟨ha, hb⟩
    walk_at "m"
    refine o_ixS (c := a) (by walk_at "side") rfl ?_
    walk_at "m"
    refine w_lift (six_fig ha) ?_
    walk_at "m"
    refine o_ixS (c := b) (by walk_at "side") rfl ?_
    walk_at "m"
    refine w_lift (six_fig hb) ?_
    walk_at "m"
    refine k_if (fun h => ?_) (fun h => ?_)
    · have h := of_decide_eq_true h
      walk_at "m"
      unfold sgn1 at k
      simp only [hn] at k
      rw [if_pos (by omega)] at k
      exact k _
    · have h := of_decide_eq_false h
      unfold sgn1 at k
      simp only [hn] at k
      rw [if_neg (by omega)] at k
      walk_at "m"
      refine k_if (fun h => ?_) (fun h => ?_)
      · have h := of_decide_eq_true h
        walk_at "m"
        rw [if_pos (by omega)] at k
        exact k _
      · have h := of_decide_eq_false h
        rw [if_neg (by omega)] at k
        walk_at "m"
        have e : (10 : Int) * ((a - 48 : Nat) : Int) + ((b - 48 : Nat) : Int) = ((10 * (a - 48) + (b - 48) : Nat) : Int) := by omega
        rw [e]
        refine o_ixS (by walk_at "side") (sgn_ix (by omega)) ?_
        walk_at "m"
        exact k _
end
end E
end
section
set_option Elab.async false
set_option linter.all false
set_option maxRecDepth 100000
set_option maxHeartbeats 4000000
open PySem PySem.Spec L2 Cr
local macro_rules | `(tactic| walk_at "side") => `(tactic| first | assumption | decide | (simp only [sizeLine_eq, List.length_append, List.length_cons, List.length_nil, List.length_map, List.length_take, List.length_drop, List.length_replicate, Nat.zero_add]; omega) | (constructor <;> first | omega | decide))
local macro_rules | `(tactic| walk_at "m1") => `(tactic| first
  | with_reducible refine w_seq ?_
  | with_reducible refine k_nx ?_
  | with_reducible refine k_rt ?_
  | with_reducible refine k_bk ?_
  | with_reducible refine k_ct ?_
  | with_reducible refine w_pure ?_
  | ((with_reducible refine' w_get ?e ?_); (case e => exact rfl))
  | with_reducible refine w_asg ?_
  | with_reducible refine w_asgO ?_
  | with_reducible refine k_o ?_
  | with_reducible refine w_asgT ?_
  | with_reducible refine w_aug ?_
  | with_reducible refine w_ret ?_
  | with_reducible refine w_nx ?_
  | with_reducible refine w_exp ?_
  | with_reducible refine w_ife ?_
  | with_reducible refine w_band ?_
  | with_reducible refine w_bor ?_
  | with_reducible refine w_bnot ?_
  | with_reducible refine w_cmpB ?_
  | with_reducible refine w_tru ?_
  | with_reducible refine w_dB ?_
  | with_reducible refine w_dTru ?_
  | with_reducible refine w_andV ?_
  | with_reducible refine w_orV ?_
  | with_reducible refine k_and ?_
  | with_reducible refine k_or ?_
  | with_reducible refine k_not ?_
  | with_reducible refine w_notV ?_
  | with_reducible refine w_chain ?_
  | with_reducible refine w_op2 ?_
  | with_reducible refine w_op1 ?_
  | with_reducible refine w_tupL ?_
  | with_reducible refine w_lstL ?_
  | with_reducible refine w_nil ?_
  | with_reducible refine w_cons ?_
  | with_reducible refine w_anil ?_
  | with_reducible refine w_av ?_
  | with_reducible refine w_ao ?_
  | with_reducible refine w_callL ?_
  | with_reducible refine w_callRL ?_
  | ((with_reducible refine w_chk ?e ?_); (case e => exact rfl))
  | with_reducible refine w_bltL ?_
  | with_reducible refine w_isiI ?_
  | with_reducible refine w_isiB ?_
  | with_reducible refine w_isiS ?_
  | with_reducible refine w_isiL ?_
  | with_reducible refine w_isiT ?_
  | with_reducible refine w_cut ?_
  | with_reducible refine w_noI ?_
  | with_reducible refine w_someI ?_
  | with_reducible refine w_dI ?_
  | with_reducible refine w_ixO ?_
  | with_reducible refine w_setIx ?_
  | with_reducible refine w_par ?_
  | with_reducible refine w_setD ?_
  | with_reducible refine w_setO ?_
  | with_reducible refine w_setNil ?_
  | with_reducible refine w_setCons ?_
  | ((with_reducible refine w_setTup ?e ?_); (case e => exact rfl))
  | with_reducible refine w_mO ?_
  | ((with_reducible refine' w_app ?e ?l ?_); (case e => exact rfl); (case l => walk_at "side"))
  | ((with_reducible refine' w_ext ?e ?l ?_); (case e => exact rfl); (case l => walk_at "side"))
  | with_reducible refine w_lc ?_
  | with_reducible refine w_for ?_
  | with_reducible refine w_src ?_
  | with_reducible refine w_srcL ?_
  | with_reducible refine w_srcT ?_
  | with_reducible refine w_srcS ?_
  | ((with_reducible refine' w_srcOwn ?e ?_); (case e => exact rfl))
  | with_reducible refine w_rg ?_
  | with_reducible refine w_enum ?_
  | with_reducible refine w_zip ?_
  | with_reducible refine w_raise ?_
  | with_reducible refine w_raise1 ?_
  | with_reducible refine o_add ?_
  | with_reducible refine o_iadd ?_
  | with_reducible refine o_sub ?_
  | with_reducible refine o_neg ?_
  | ((with_reducible refine o_mul ?e ?_); (case e => first | exact mulOk_r (by omega) | exact mulOk_l (by omega)))
  | ((with_reducible refine o_div ?e ?_); (case e => decide))
  | ((with_reducible refine o_div2 ?e ?_); (case e => constructor <;> omega))
  | ((with_reducible refine o_mod ?e ?_); (case e => first | decide | omega))
  | ((with_reducible refine o_pow ?e ?_); (case e => decide))
  | ((with_reducible refine' o_ixL ?e ?_); (case e => exact rfl))
  | ((with_reducible refine' o_ixT ?e ?_); (case e => exact rfl))
  | ((with_reducible refine' w_putIx ?e ?f ?_); (case e => exact rfl); (case f => exact rfl))
  | with_reducible refine o_abs ?_
  | with_reducible refine o_lt ?_
  | with_reducible refine o_le ?_
  | with_reducible refine o_gt ?_
  | with_reducible refine o_ge ?_
  | with_reducible refine o_eqI ?_
  | with_reducible refine o_neI ?_
  | with_reducible refine o_eqS ?_
  | with_reducible refine o_neS ?_
  | with_reducible refine o_int ?_
  | with_reducible refine o_isN ?_
  | with_reducible refine o_isNotN ?_
  | with_reducible refine o_isB ?_
  | with_reducible refine o_isNotB ?_
  | ((with_reducible refine o_addS ?e ?_); (case e => walk_at "side"))
  | ((with_reducible refine o_iaddS ?e ?_); (case e => walk_at "side"))
  | ((with_reducible refine o_addL ?e ?_); (case e => walk_at "side"))
  | ((with_reducible refine o_addT ?e ?_); (case e => walk_at "side"))
  | with_reducible refine o_inC ?_
  | with_reducible refine o_niC ?_
  | ((with_reducible refine o_lenS ?e ?_); (case e => walk_at "side"))
  | with_reducible refine o_lenL ?_
  | with_reducible refine o_lenT ?_
  | with_reducible refine o_ord ?_
  | ((with_reducible refine o_cutS ?e ?_); (case e => walk_at "side"))
  | with_reducible refine o_cutL ?_
  | with_reducible refine o_cutT ?_
  | with_reducible refine o_cutX ?_
  | ((with_reducible refine o_tup ?e ?_); (case e => walk_at "side"))
  | ((with_reducible refine o_lst ?e ?_); (case e => walk_at "side"))
  | with_reducible refine o_tuple ?_
  | with_reducible refine o_tuple2 ?_
  | with_reducible refine o_list ?_
  | with_reducible refine o_list2 ?_
  | with_reducible refine w_lamW ?_
  | ((with_reducible refine o_mulS ?e ?_); (case e => decide))
  | ((with_reducible refine o_mulT ?e ?_); (case e => exact ⟨by simp, by decide, by decide, by simp⟩))
  | with_reducible refine w_ct ?_
  | with_reducible refine w_cf ?_
  | with_reducible refine w_mt ?_
  | with_reducible refine ty_s ?_
  | with_reducible refine ty_l ?_
  | ((with_reducible refine o_rg1 ?e ?_); (case e => exact smallI_of (by omega)))
  | ((with_reducible refine o_rg2 ?e ?_); (case e => exact ⟨smallI_of (by omega), smallI_of (by omega)⟩))
  | ((with_reducible refine o_rg3 ?e ?_); (case e => exact ⟨smallI_of (by omega), smallI_of (by omega), by decide, by decide⟩))
  | with_reducible refine ke_rt0 ?_
  | with_reducible refine ke_nx0 ?_
  | (refine k_t' ?e ?_; (case e => exact rfl))
  | (refine k_f' ?e ?_; (case e => exact rfl)))
local macro_rules | `(tactic| walk_at "m") => `(tactic| repeat walk_at "m1")

namespace E
open PySem PySem.Spec L2 Cr
set_option autoImplicit false
/-! ### reading cards -/
def sgnL : List Nat → Option Nat
  | [a, b] => sgn1 a b
  | _ => none
def dots (p : List Nat) : Bool := decide (p = [46, 46])
def strip (ps : List (List Nat)) : List (List Nat) := (ps.reverse.dropWhile dots).reverse
theorem strip_snoc (ps : List (List Nat)) (p : List Nat) : strip (ps ++ [p]) = if dots p then strip ps else ps ++ [p] := by
  unfold strip
  rw [List.reverse_append, List.reverse_singleton, List.singleton_append, List.dropWhile_cons]
  split
  · rfl
  · simp
def dec : List (List Nat) → Option (List Nat)
  | [] => some []
  | p :: r => match sgnL p, dec r with
    | some c, some cs => some (c :: cs)
    | _, _ => none
theorem dec_app : ∀ (a b : List (List Nat)), dec (a ++ b) = match dec a, dec b with
    | some x, some y => some (x ++ y)
    | _, _ => none
  | [], b => by
    simp only [List.nil_append, dec]
    cases dec b <;> rfl
  | p :: a, b => by
    simp only [List.cons_append, dec, dec_app a b]
    cases sgnL p <;> cases dec a <;> cases dec b <;> rfl
theorem dec_len : ∀ {ps : List (List Nat)} {cs : List Nat}, dec ps = some cs → cs.length = ps.length
  | [], cs, h => by cases h; rfl
  | p :: r, cs, h => by
    simp only [dec] at h
    split at h
    · rename_i c cs' h1 h2
      cases h
      simp [dec_len h2]
    · cases h
def pairs (l : List Nat) : List (List Nat) := [(l.drop 2).take 2, (l.drop 4).take 2, (l.drop 6).take 2]
def optL : Option (List Nat) → D
  | some c => .str (mk c)
  | none => .none
section
variable {E : Xc → Ev → Prop}
theorem optS_none {o : Option Nat} (h : isN (optS o) = true) : o = none := by cases o; rfl; cases h
theorem optS_some {o : Option Nat} (h : isN (optS o) = false) : ∃ c, o = some c := by cases o; cases h; exact ⟨_, rfl⟩
theorem pop_last {ds : List D} {d : D} (h : ∀ fs, d ≠ .list fs) : gPop (ds ++ [d]) [] = some (d, ds) := by
  cases d with
  | list fs => exact absurd rfl (h fs)
  | _ => simp [gPop]
theorem strip_mem {ps : List (List Nat)} {p : List Nat} (h : p ∈ strip ps) : p ∈ ps := by
  unfold strip at h
  rw [List.mem_reverse] at h
  exact List.mem_reverse.mp (List.dropWhile_sublist _ |>.subset h)
theorem pair_two {l : List Nat} (hl : l.length = 8) {p : List Nat} (h : p ∈ pairs l) : ∃ a b, p = [a, b] := by
  have h2 : p.length = 2 := by
    unfold pairs at h
    simp only [List.mem_cons, List.not_mem_nil, or_false] at h
    rcases h with rfl | rfl | rfl <;> simp [hl]
  match p, h2 with
  | [a, b], _ => exact ⟨a, b, rfl⟩
theorem sp_share_of {l : List Nat} {Q : D → Ev → Prop} (hl : l.length = 8) (k : ∀ ρ, Q (optL (dec (strip (pairs l)))) ρ) : (m_share_of [.str (mk l)]).wp Q E := by
  rw [x_share_of_eq]
  refine w_run rfl ?_
  unfold x_share_of
  simp only [ini, nones, Nat.reduceSub]
  walk_at "m"
  simp only [show cnt 2 8 2 = 3 by decide]
  refine w_lcMap (List.range 3) (fun k => .int (2 + (k : Int) * 2)) (fun k => .str (mk ((l.drop (2 + 2 * k)).take 2))) (fun i _ => turn_map ?_) ?_ rfl (by rw [sizeLine_eq]; decide)
  · simp only [wipeE, List.set]
    walk_at "m"
    rw [cut_ii _ (by omega) (by omega), List.drop_take, show (2 + (i : Int) * 2).toNat = 2 + 2 * i by omega, show (2 + (i : Int) * 2 + 2).toNat - (2 + 2 * i) = 2 by omega]
    exact ⟨rfl, rfl⟩
  have e0 : ((List.range 3).map fun k => (.str (mk ((l.drop (2 + 2 * k)).take 2)) : D)) = (pairs l).map fun p => .str (mk p) := rfl
  rw [e0]
  walk_at "m"
  try simp only [List.set]
  refine w_mid (fun ρ' => ∃ o3 o4 o5 : Option D, ρ' = [some (.str (mk l)), some (.str (mk [])), some (.list ((strip (pairs l)).map fun p => .str (mk p))), o3, o4, o5]) ?_ ?_
  · refine w_whl (fun k ρ' => ∃ ps : List (List Nat), ps.length = k ∧ strip ps = strip (pairs l) ∧ ∃ o3 o4 o5 : Option D, ρ' = [some (.str (mk l)), some (.str (mk [])), some (.list (ps.map fun p => .str (mk p))), o3, o4, o5]) ?_ (k := 3) ⟨pairs l, rfl, rfl, _, _, _, rfl⟩ (by decide)
    rintro k ρ' ⟨ps, hk, hs, o3, o4, o5, rfl⟩
    walk_at "m"
    rcases List.eq_nil_or_concat ps with rfl | ⟨qs, p, e⟩
    · refine k_f' rfl ?_
      walk_at "m"
      refine ⟨nofun, fun _ => ⟨o3, o4, o5, ?_⟩⟩
      rw [← hs]; rfl
    · rw [List.concat_eq_append] at e
      subst e
      refine k_t' (decide_eq_true (by simp only [List.length_map, List.length_append, List.length_singleton]; omega)) ?_
      walk_at "m"
      have ea : L2.atI ((qs ++ [p]).map fun p => (.str (mk p) : D)) (-1) = some (.str (mk p)) := by
        rw [List.map_append]; exact atI_m1 _ _
      refine o_ixL ea ?_
      walk_at "m"
      rw [strip_snoc] at hs
      refine ⟨fun h => ?_, fun h => ?_⟩
      · have h : dots p = true := h
        rw [if_pos h] at hs
        walk_at "m"
        refine w_meth rfl (d := .str (mk p)) (ds' := qs.map fun p => .str (mk p)) ?_ ?_
        · rw [List.map_append]; exact pop_last (by intro fs; nofun)
        walk_at "m"
        refine ⟨qs.length, ?_, qs, rfl, hs, o3, o4, o5, rfl⟩
        rw [← hk]; simp
      · have h : dots p = false := h
        rw [if_neg (by rw [h]; simp)] at hs
        refine ⟨o3, o4, o5, ?_⟩
        rw [← hs]
  · rintro ρ' ⟨o3, o4, o5, rfl⟩
    walk_at "m"
    refine w_forGo (fun pre _ ρ' => ∃ (cs : List Nat) (o3 o4 o5 : Option D), dec pre = some cs ∧ ρ' = [some (.str (mk l)), some (.str (mk cs)), some (.list ((strip (pairs l)).map fun p => .str (mk p))), o3, o4, o5]) (strip (pairs l)) (fun p => .str (mk p)) ⟨[], _, _, _, rfl, rfl⟩ ?_ ?_ ?_
    · rintro pre post ρ' ⟨cs, o3, o4, o5, _, rfl⟩
      exact chkG1 rfl (noDcts_str _)
    · rintro pre p post ρ' he ⟨cs, o3, o4, o5, hd, rfl⟩
      obtain ⟨a, b, rfl⟩ := pair_two hl (strip_mem (p := p) (by rw [he]; simp))
      have hcs := dec_len hd
      have hl3 : (strip (pairs l)).length ≤ 3 := by
        unfold strip
        rw [List.length_reverse]
        exact Nat.le_trans (List.dropWhile_sublist _).length_le (by simp [pairs])
      have hp : pre.length < 3 := by
        have := congrArg List.length he
        simp at this; omega
      walk_at "m"
      refine w_callP rfl rfl (sp_sign_of fun _ => ?_)
      walk_at "m"
      refine k_if (fun h => ?_) (fun h => ?_)
      · walk_at "m"
        have e := optS_none h
        have : dec (strip (pairs l)) = none := by
          rw [he, dec_app, hd]
          have : dec ([a, b] :: post) = none := by
            simp only [dec, sgnL, e]
          rw [this]
        rw [this] at k
        exact kf_rt (ke_rt0 (k _))
      · obtain ⟨c, e⟩ := optS_some h
        rw [e]
        unfold optS
        walk_at "m"
        refine kf_nx ?_
        try simp only [List.set]
        refine ⟨cs ++ [c], _, _, _, ?_, rfl⟩
        rw [dec_app, hd]
        simp only [dec, sgnL, e]
    · rintro ρ' ⟨cs, o3, o4, o5, hd, rfl⟩
      walk_at "m"
      rw [hd] at k
      exact k _
/-! a deck read -/
/-- the n cards' text of the i-th -/
def readC (n i : Nat) (c : List Nat) : Option (List Nat) :=
  if c.take 2 = fig (i % 100) then (match dec (strip (pairs c)) with
    | some s => if s = [] ∨ (s.length < 3 ∧ i + 1 < n) then none else some s
    | none => none) else none
inductive Rd where
  | ok (t : List Nat)
  | at (i : Nat)
def Rd.put (t : List Nat) : Rd → Rd
  | .ok u => .ok (t ++ u)
  | .at i => .at i
def rd (n : Nat) : Nat → List (List Nat) → Rd
  | _, [] => .ok []
  | i, c :: r => match readC n i c with
    | none => .at i
    | some s => (rd n (i + 1) r).put s
theorem Rd.put_put (s t : List Nat) (r : Rd) : (r.put t).put s = r.put (s ++ t) := by cases r <;> simp [Rd.put]
def Rd.post (Q : D → Ev → Prop) (E : Xc → Ev → Prop) : Rd → Prop
  | .ok t => ∀ ρ, Q (.str (mk t)) ρ
  | .at i => ∀ ρ, E ⟨"BadCard", some ("card", .int (i : Nat))⟩ ρ
theorem sp_raw_deck_text {cs : List (List Nat)} {Q : D → Ev → Prop} (hl : ∀ c ∈ cs, c.length = 8) (hn : cs.length ≤ 400) (k : (rd cs.length 0 cs).post Q E) : (m_raw_deck_text [strT cs]).wp Q E := by
  rw [x_raw_deck_text_eq]
  refine w_run rfl ?_
  unfold x_raw_deck_text
  simp only [ini, nones, Nat.reduceSub]
  unfold strT
  walk_at "m"
  simp only [enumD_map, List.set]
  refine w_forGo (fun pre post ρ' => ∃ (t : List Nat) (o2 o3 o4 o5 : Option D), t.length ≤ 3 * pre.length ∧ rd cs.length 0 cs = (rd cs.length pre.length (post.map (·.1))).put t ∧ ρ' = [some (.tuple (cs.map fun x => .str (mk x))), some (.str (mk t)), o2, o3, o4, o5]) cs.zipIdx (fun p => .tuple [.int (p.2 : Nat), .str (mk p.1)]) ?_ (fun _ _ _ _ => rfl) ?_ ?_
  · refine ⟨[], _, _, _, _, by simp, ?_, rfl⟩
    rw [show (cs.zipIdx.map fun x => x.1) = cs by
      refine List.ext_getElem? fun i => ?_
      simp only [List.getElem?_map, List.getElem?_zipIdx]
      cases cs[i]? <;> simp]
    simp only [List.length_nil]
    cases rd cs.length 0 cs <;> simp [Rd.put]
  · rintro pre ⟨c, i⟩ post ρ' he ⟨t, o2, o3, o4, o5, ht, hr, rfl⟩
    obtain ⟨hi, hc⟩ := zipIdx_split he
    have hi : i = pre.length := by simpa using hi
    subst hi
    have hlen : c.length = 8 := hl c (by rw [hc]; simp)
    have hpn : pre.length < cs.length := by
      have := congrArg List.length hc
      simp at this; omega
    simp only [List.map_cons, rd] at hr
    walk_at "m"
    refine w_callP rfl rfl (sp_share_of hlen fun _ => ?_)
    walk_at "m"
    rw [cut_0i _ (by decide)]
    walk_at "m"
    refine o_ixS (by walk_at "side") (fig_ix (by omega) (by omega)) ?_
    walk_at "m"
    refine o_ixS (by walk_at "side") (fig_ix (by omega) (by omega)) ?_
    walk_at "m"
    have e2 : [48 + ((pre.length : Int) % 100 / 10).toNat] ++ [48 + ((pre.length : Int) % 100 % 10).toNat] = fig (pre.length % 100) := by
      rw [show ((pre.length : Int) % 100 / 10).toNat = pre.length % 100 / 10 by omega, show ((pre.length : Int) % 100 % 10).toNat = pre.length % 100 % 10 by omega]; rfl
    rw [e2]
    have bad : readC cs.length pre.length c = none → ∀ ρ, E ⟨"BadCard", some ("card", .int (pre.length : Nat))⟩ ρ := fun e => by
      rw [e] at hr
      rw [hr] at k
      exact k
    have t2 : c.take (Int.toNat 2) = c.take 2 := rfl
    refine k_if (fun h => ?_) (fun h => ?_)
    · walk_at "m"
      have h : ¬ c.take 2 = fig (pre.length % 100) := by simpa [t2] using h
      exact ⟨rfl, bad (if_neg h) _⟩
    · have h : c.take 2 = fig (pre.length % 100) := by simpa [t2] using h
      walk_at "m"
      cases ed : dec (strip (pairs c)) with
      | none =>
        unfold optL
        walk_at "m"
        exact ⟨rfl, bad (by unfold readC; rw [if_pos h, ed]) _⟩
      | some s =>
        unfold optL
        walk_at "m"
        have hs3 : s.length ≤ 3 := by
          have := dec_len ed
          have h3 : (strip (pairs c)).length ≤ 3 := by
            unfold strip
            rw [List.length_reverse]
            exact Nat.le_trans (List.dropWhile_sublist _).length_le (by simp [pairs])
          omega
        refine k_if (fun h2 => ?_) (fun h2 => ?_)
        · walk_at "m"
          exact ⟨rfl, bad (by unfold readC; rw [if_pos h, ed]; simp only; rw [if_pos (.inl (by simpa using h2))]) _⟩
        · have h2 : s ≠ [] := by simpa using h2
          walk_at "m"
          have fin : ¬ (s.length < 3 ∧ pre.length + 1 < cs.length) → readC cs.length pre.length c = some s := fun h3 => by
            unfold readC; rw [if_pos h, ed]; simp only; rw [if_neg (by intro z; rcases z with z | z; exact h2 z; exact h3 z)]
          have go : readC cs.length pre.length c = some s → ∃ (t' : List Nat) (o2 o3 o4 o5 : Option D), t'.length ≤ 3 * (pre ++ [(c, pre.length)]).length ∧ rd cs.length 0 cs = (rd cs.length (pre ++ [(c, pre.length)]).length (post.map (·.1))).put t' ∧ t' = t ++ s := fun e => by
            rw [e] at hr
            refine ⟨t ++ s, none, none, none, none, by simp; omega, ?_, rfl⟩
            simp only [Rd.put_put] at hr
            simpa using hr
          refine k_if (fun h3 => ?_) (fun h3 => ?_)
          · walk_at "m"
            refine k_if (fun h4 => ?_) (fun h4 => ?_)
            · walk_at "m"
              have h3 := of_decide_eq_true h3
              have h4 := of_decide_eq_true h4
              rw [List.length_map] at h4
              exact ⟨rfl, bad (by unfold readC; rw [if_pos h, ed]; simp only; rw [if_pos (.inr ⟨by omega, by omega⟩)]) _⟩
            · have h4 := of_decide_eq_false h4
              rw [List.length_map] at h4
              obtain ⟨t', _, _, _, _, q1, q2, q3⟩ := go (fin (by omega))
              walk_at "m"
              refine kf_nx ?_
              try simp only [List.set]
              exact ⟨t', _, _, _, _, q1, q2, by rw [q3]⟩
          · have h3 := of_decide_eq_false h3
            obtain ⟨t', _, _, _, _, q1, q2, q3⟩ := go (fin (by omega))
            walk_at "m"
            refine kf_nx ?_
            try simp only [List.set]
            exact ⟨t', _, _, _, _, q1, q2, by rw [q3]⟩
  · rintro ρ' ⟨t, o2, o3, o4, o5, ht, hr, rfl⟩
    walk_at "m"
    rw [hr] at k
    have := k [some (.tuple (cs.map fun x => .str (mk x))), some (.str (mk t)), o2, o3, o4, o5]
    simpa using this
end
end E
end
section
set_option Elab.async false
set_option linter.all false
set_option maxRecDepth 100000
set_option maxHeartbeats 4000000
open PySem PySem.Spec L2 Cr
local macro_rules | `(tactic| walk_at "side") => `(tactic| first | assumption | decide | (simp only [sizeLine_eq, List.length_append, List.length_cons, List.length_nil, List.length_map, List.length_take, List.length_drop, List.length_replicate, Nat.zero_add]; omega) | (constructor <;> first | omega | decide))
local macro_rules | `(tactic| walk_at "m1") => `(tactic| first
  | with_reducible refine w_seq ?_
  | with_reducible refine k_nx ?_
  | with_reducible refine k_rt ?_
  | with_reducible refine k_bk ?_
  | with_reducible refine k_ct ?_
  | with_reducible refine w_pure ?_
  | ((with_reducible refine' w_get ?e ?_); (case e => exact rfl))
  | with_reducible refine w_asg ?_
  | with_reducible refine w_asgO ?_
  | with_reducible refine k_o ?_
  | with_reducible refine w_asgT ?_
  | with_reducible refine w_aug ?_
  | with_reducible refine w_ret ?_
  | with_reducible refine w_nx ?_
  | with_reducible refine w_exp ?_
  | with_reducible refine w_ife ?_
  | with_reducible refine w_band ?_
  | with_reducible refine w_bor ?_
  | with_reducible refine w_bnot ?_
  | with_reducible refine w_cmpB ?_
  | with_reducible refine w_tru ?_
  | with_reducible refine w_dB ?_
  | with_reducible refine w_dTru ?_
  | with_reducible refine w_andV ?_
  | with_reducible refine w_orV ?_
  | with_reducible refine k_and ?_
  | with_reducible refine k_or ?_
  | with_reducible refine k_not ?_
  | with_reducible refine w_notV ?_
  | with_reducible refine w_chain ?_
  | with_reducible refine w_op2 ?_
  | with_reducible refine w_op1 ?_
  | with_reducible refine w_tupL ?_
  | with_reducible refine w_lstL ?_
  | with_reducible refine w_nil ?_
  | with_reducible refine w_cons ?_
  | with_reducible refine w_anil ?_
  | with_reducible refine w_av ?_
  | with_reducible refine w_ao ?_
  | with_reducible refine w_callL ?_
  | with_reducible refine w_callRL ?_
  | ((with_reducible refine w_chk ?e ?_); (case e => exact rfl))
  | with_reducible refine w_bltL ?_
  | with_reducible refine w_isiI ?_
  | with_reducible refine w_isiB ?_
  | with_reducible refine w_isiS ?_
  | with_reducible refine w_isiL ?_
  | with_reducible refine w_isiT ?_
  | with_reducible refine w_cut ?_
  | with_reducible refine w_noI ?_
  | with_reducible refine w_someI ?_
  | with_reducible refine w_dI ?_
  | with_reducible refine w_ixO ?_
  | with_reducible refine w_setIx ?_
  | with_reducible refine w_par ?_
  | with_reducible refine w_setD ?_
  | with_reducible refine w_setO ?_
  | with_reducible refine w_setNil ?_
  | with_reducible refine w_setCons ?_
  | ((with_reducible refine w_setTup ?e ?_); (case e => exact rfl))
  | with_reducible refine w_mO ?_
  | ((with_reducible refine' w_app ?e ?l ?_); (case e => exact rfl); (case l => walk_at "side"))
  | ((with_reducible refine' w_ext ?e ?l ?_); (case e => exact rfl); (case l => walk_at "side"))
  | with_reducible refine w_lc ?_
  | with_reducible refine w_for ?_
  | with_reducible refine w_src ?_
  | with_reducible refine w_srcL ?_
  | with_reducible refine w_srcT ?_
  | with_reducible refine w_srcS ?_
  | ((with_reducible refine' w_srcOwn ?e ?_); (case e => exact rfl))
  | with_reducible refine w_rg ?_
  | with_reducible refine w_enum ?_
  | with_reducible refine w_zip ?_
  | with_reducible refine w_raise ?_
  | with_reducible refine w_raise1 ?_
  | with_reducible refine o_add ?_
  | with_reducible refine o_iadd ?_
  | with_reducible refine o_sub ?_
  | with_reducible refine o_neg ?_
  | ((with_reducible refine o_mul ?e ?_); (case e => first | exact mulOk_r (by omega) | exact mulOk_l (by omega)))
  | ((with_reducible refine o_div ?e ?_); (case e => decide))
  | ((with_reducible refine o_div2 ?e ?_); (case e => constructor <;> omega))
  | ((with_reducible refine o_mod ?e ?_); (case e => first | decide | omega))
  | ((with_reducible refine o_pow ?e ?_); (case e => decide))
  | ((with_reducible refine' o_ixL ?e ?_); (case e => exact rfl))
  | ((with_reducible refine' o_ixT ?e ?_); (case e => exact rfl))
  | ((with_reducible refine' w_putIx ?e ?f ?_); (case e => exact rfl); (case f => exact rfl))
  | with_reducible refine o_abs ?_
  | with_reducible refine o_lt ?_
  | with_reducible refine o_le ?_
  | with_reducible refine o_gt ?_
  | with_reducible refine o_ge ?_
  | with_reducible refine o_eqI ?_
  | with_reducible refine o_neI ?_
  | with_reducible refine o_eqS ?_
  | with_reducible refine o_neS ?_
  | with_reducible refine o_int ?_
  | with_reducible refine o_isN ?_
  | with_reducible refine o_isNotN ?_
  | with_reducible refine o_isB ?_
  | with_reducible refine o_isNotB ?_
  | ((with_reducible refine o_addS ?e ?_); (case e => walk_at "side"))
  | ((with_reducible refine o_iaddS ?e ?_); (case e => walk_at "side"))
  | ((with_reducible refine o_addL ?e ?_); (case e => walk_at "side"))
  | ((with_reducible refine o_addT ?e ?_); (case e => walk_at "side"))
  | with_reducible refine o_inC ?_
  | with_reducible refine o_niC ?_
  | ((with_reducible refine o_lenS ?e ?_); (case e => walk_at "side"))
  | with_reducible refine o_lenL ?_
  | with_reducible refine o_lenT ?_
  | with_reducible refine o_ord ?_
  | ((with_reducible refine o_cutS ?e ?_); (case e => walk_at "side"))
  | with_reducible refine o_cutL ?_
  | with_reducible refine o_cutT ?_
  | with_reducible refine o_cutX ?_
  | ((with_reducible refine o_tup ?e ?_); (case e => walk_at "side"))
  | ((with_reducible refine o_lst ?e ?_); (case e => walk_at "side"))
  | with_reducible refine o_tuple ?_
  | with_reducible refine o_tuple2 ?_
  | with_reducible refine o_list ?_
  | with_reducible refine o_list2 ?_
  | with_reducible refine w_lamW ?_
  | ((with_reducible refine o_mulS ?e ?_); (case e => decide))
  | ((with_reducible refine o_mulT ?e ?_); (case e => exact ⟨by simp, by decide, by decide, by simp⟩))
  | with_reducible refine w_ct ?_
  | with_reducible refine w_cf ?_
  | with_reducible refine w_mt ?_
  | with_reducible refine ty_s ?_
  | with_reducible refine ty_l ?_
  | ((with_reducible refine o_rg1 ?e ?_); (case e => exact smallI_of (by omega)))
  | ((with_reducible refine o_rg2 ?e ?_); (case e => exact ⟨smallI_of (by omega), smallI_of (by omega)⟩))
  | ((with_reducible refine o_rg3 ?e ?_); (case e => exact ⟨smallI_of (by omega), smallI_of (by omega), by decide, by decide⟩))
  | with_reducible refine ke_rt0 ?_
  | with_reducible refine ke_nx0 ?_
  | (refine k_t' ?e ?_; (case e => exact rfl))
  | (refine k_f' ?e ?_; (case e => exact rfl)))
local macro_rules | `(tactic| walk_at "m") => `(tactic| repeat walk_at "m1")

namespace E
open PySem PySem.Spec L2 Cr
set_option autoImplicit false
section
variable {E : Xc → Ev → Prop}
theorem deckB_str {cs : List (List Nat)} (h : cs.length ≤ 400) (hc : ∀ c ∈ cs, c.length = 8 ∧ ∀ x ∈ c, x ∈ SIGN) : deckB (strT cs) = true := by
  unfold strT deckB
  simp only [List.length_map]
  rw [decide_eq_true (by omega), Bool.true_and, List.all_map]
  refine all_true fun c h => ?_
  obtain ⟨h1, h2⟩ := hc c h
  show cardB (.str (mk c)) = true
  rw [cardB_mk, decide_eq_true (by omega), Bool.true_and]
  exact all_true fun x hx => decide_eq_true (h2 x hx)
theorem fit_str (cs : List (List Nat)) (h : ∀ c ∈ cs, c.length ≤ 100000) : FitT (strT cs) := by
  intro ds e x hx z ez
  cases e
  obtain ⟨c, hc, rfl⟩ := List.mem_map.mp hx
  cases ez
  have := h c hc
  simpa [mk] using this
theorem sp_text_of_deck {cs : List (List Nat)} {Q : D → Ev → Prop} (hn : cs.length ≤ 400) (hc : ∀ c ∈ cs, c.length = 8 ∧ ∀ x ∈ c, x ∈ SIGN) (k : (rd cs.length 0 cs).post Q E) : (m_text_of_deck [strT cs]).wp Q E := by
  rw [x_text_of_deck_eq]
  refine w_run rfl ?_
  unfold x_text_of_deck
  simp only [ini, nones, Nat.reduceSub]
  walk_at "m"
  refine w_callP rfl rfl (sp_raw_is_deck (fit_str cs fun c h => by have := (hc c h).1; omega) fun _ => ?_)
  rw [deckB_str hn hc]
  walk_at "m"
  refine w_callP rfl rfl (sp_raw_deck_text (fun c h => (hc c h).1) hn ?_)
  cases e : rd cs.length 0 cs with
  | ok t => rw [e] at k; exact fun ρ => by walk_at "m"; exact k _
  | «at» i => rw [e] at k; exact fun ρ => ⟨rfl, k _⟩
theorem sp_text_of_deck_no {d : D} {Q : D → Ev → Prop} (hf : FitT d) (hd : deckB d = false) (k : ∀ ρ, E ⟨"NoDeck", none⟩ ρ) : (m_text_of_deck [d]).wp Q E := by
  rw [x_text_of_deck_eq]
  refine w_run rfl ?_
  unfold x_text_of_deck
  simp only [ini, nones, Nat.reduceSub]
  walk_at "m"
  refine w_callP rfl rfl (sp_raw_is_deck hf fun _ => ?_)
  rw [hd]
  walk_at "m"
  exact ⟨rfl, k _⟩
theorem sp_is_punched_no {d : D} {Q : D → Ev → Prop} (hf : FitT d) (hd : deckB d = false) (k : ∀ ρ, Q (.bool false) ρ) : (m_is_punched_text [d]).wp Q E := by
  rw [x_is_punched_text_eq]
  refine w_run rfl ?_
  unfold x_is_punched_text
  simp only [ini, nones, Nat.reduceSub]
  walk_at "m"
  refine w_callP rfl rfl (sp_raw_is_deck hf fun _ => ?_)
  rw [hd]
  walk_at "m"
  exact k _
theorem sp_is_punched {cs : List (List Nat)} {Q : D → Ev → Prop} (hn : cs.length ≤ 400) (hc : ∀ c ∈ cs, c.length = 8 ∧ ∀ x ∈ c, x ∈ SIGN) (ho : ∀ c ∈ cs, okL c)
    (k : match rd cs.length 0 cs with
      | .ok t => t.length ≤ 20000 ∧ (∀ c ∈ t, Sg c) ∧ (∀ c ∈ deck t, okL c) ∧ ∀ ρ, Q (.bool (decide (deck t = cs))) ρ
      | .at _ => ∀ ρ, Q (.bool false) ρ) : (m_is_punched_text [strT cs]).wp Q E := by
  rw [x_is_punched_text_eq]
  refine w_run rfl ?_
  unfold x_is_punched_text
  simp only [ini, nones, Nat.reduceSub]
  walk_at "m"
  refine w_callP rfl rfl (sp_raw_is_deck (fit_str cs fun c h => by have := (hc c h).1; omega) fun _ => ?_)
  rw [deckB_str hn hc]
  walk_at "m"
  refine w_tryE ?_
  walk_at "m"
  refine w_callP rfl rfl (sp_raw_deck_text (fun c h => (hc c h).1) hn ?_)
  cases e : rd cs.length 0 cs with
  | ok t =>
    rw [e] at k
    obtain ⟨k1, k2, k3, k4⟩ := k
    intro ρ
    walk_at "m"
    refine w_callP rfl rfl (sp_raw_text_deck k1 k2 fun _ => ?_)
    walk_at "m"
    refine o_eqT k3 ho ?_
    walk_at "m"
    exact k4 _
  | «at» i =>
    rw [e] at k
    intro ρ
    have hs : isSub X0 "BadCard" "BadCard" = some true := by kernel_rfl
    unfold M.hdl
    simp only [hs]
    show (Oc.nox _).wp _ _
    exact ke_rt0 (k _)
end
/-! ### the deck of a text, read -/
theorem fig_mem {n : Nat} (h : n < 100) {x : Nat} (hx : x ∈ fig n) : x ∈ FIGS := by
  unfold fig at hx
  simp only [List.mem_cons, List.not_mem_nil, or_false] at hx
  have : 48 ≤ x ∧ x ≤ 57 := by rcases hx with rfl | rfl <;> omega
  have : x = 48 ∨ x = 49 ∨ x = 50 ∨ x = 51 ∨ x = 52 ∨ x = 53 ∨ x = 54 ∨ x = 55 ∨ x = 56 ∨ x = 57 := by omega
  simpa [FIGS] using this
theorem figs_sign {x : Nat} (h : x ∈ FIGS) : x ∈ SIGN := by
  have : x = 48 ∨ x = 49 ∨ x = 50 ∨ x = 51 ∨ x = 52 ∨ x = 53 ∨ x = 54 ∨ x = 55 ∨ x = 56 ∨ x = 57 := by simpa [FIGS] using h
  rcases this with rfl | rfl | rfl | rfl | rfl | rfl | rfl | rfl | rfl | rfl <;> decide
theorem cd_le {c : Nat} (h : Sg c) : cd c ≤ 95 := by unfold cd; rcases h with h | h <;> split <;> omega
theorem sgn_fig {c : Nat} (h : Sg c) : sgnL (fig (cd c)) = some c := by
  have hb := cd_le h
  have h1 : 48 + cd c / 10 ∈ FIGS := fig_mem (n := cd c) (by omega) (by simp [fig])
  have h2 : 48 + cd c % 10 ∈ FIGS := fig_mem (n := cd c) (by omega) (by simp [fig])
  show sgn1 (48 + cd c / 10) (48 + cd c % 10) = some c
  unfold sgn1 num2
  rw [if_pos ⟨h1, h2⟩]
  have e : 10 * (48 + cd c / 10 - 48) + (48 + cd c % 10 - 48) = cd c := by omega
  simp only [e]
  rw [if_neg (by omega)]
  by_cases h10 : c = 10
  · subst h10; rfl
  · have hc : 32 ≤ c ∧ c < 127 := h.resolve_left h10
    have : cd c = c - 32 := by unfold cd; rw [if_neg h10]
    rw [this, if_neg (by omega)]
    congr 1; omega
theorem dots_fig (n : Nat) : dots (fig n) = false := by
  unfold dots fig
  refine decide_eq_false ?_
  intro h
  simp only [List.cons.injEq] at h
  omega
theorem dec_share {s : List Nat} (h : ∀ c ∈ s, Sg c) : dec (s.map fun c => fig (cd c)) = some s := by
  induction s with
  | nil => rfl
  | cons c r ih =>
    simp only [List.map_cons, dec, sgn_fig (h c List.mem_cons_self), ih fun x hx => h x (List.mem_cons_of_mem _ hx)]
theorem strip_none {ps : List (List Nat)} (h : ps ≠ []) (hl : ∀ p ∈ ps, dots p = false) : strip ps = ps := by
  rcases List.eq_nil_or_concat ps with rfl | ⟨qs, p, e⟩
  · exact absurd rfl h
  · rw [List.concat_eq_append] at e
    subst e
    rw [strip_snoc, if_neg (by rw [hl p (by simp)]; simp)]
theorem strip_dots (ps : List (List Nat)) (n : Nat) : strip (ps ++ List.replicate n [46, 46]) = strip ps := by
  induction n with
  | zero => simp
  | succ n ih =>
    rw [List.replicate_succ', ← List.append_assoc, strip_snoc, if_pos (by decide), ih]
theorem three {s : List Nat} (h0 : s ≠ []) (h : s.length ≤ 3) : (∃ a, s = [a]) ∨ (∃ a b, s = [a, b]) ∨ ∃ a b c, s = [a, b, c] := by
  match s, h0, h with
  | [a], _, _ => exact .inl ⟨a, rfl⟩
  | [a, b], _, _ => exact .inr (.inl ⟨a, b, rfl⟩)
  | [a, b, c], _, _ => exact .inr (.inr ⟨a, b, c, rfl⟩)
  | _ :: _ :: _ :: _ :: _, _, h => simp at h
def cardOf (n : Nat) (s : List Nat) : List Nat := fig n ++ codes s ++ (List.replicate (3 - s.length) [46, 46]).flatten
theorem card_eq (l : List Nat) (i : Nat) : card l i = cardOf (i % 100) (share l i) := rfl
theorem pairs_card (n : Nat) {s : List Nat} (h0 : s ≠ []) (h : s.length ≤ 3) : pairs (cardOf n s) = (s.map fun c => fig (cd c)) ++ List.replicate (3 - s.length) [46, 46] := by
  rcases three h0 h with ⟨a, rfl⟩ | ⟨a, b, rfl⟩ | ⟨a, b, c, rfl⟩ <;> rfl
theorem card_len {l : List Nat} {i : Nat} : (card l i).length = 8 := by
  have := share_len l i
  have := codes_len (share l i)
  unfold card
  simp [fig]
  omega
theorem card_mem {l : List Nat} (hs : ∀ c ∈ l, Sg c) {i x : Nat} (h : x ∈ card l i) : x ∈ SIGN := by
  unfold card codes at h
  simp only [List.mem_append, List.mem_flatten, List.mem_map, List.mem_replicate] at h
  rcases h with (h | ⟨_, ⟨c, hc, rfl⟩, h⟩) | ⟨_, ⟨_, rfl⟩, h⟩
  · exact figs_sign (fig_mem (Nat.mod_lt _ (by decide)) h)
  · exact figs_sign (fig_mem (by have := cd_le (hs c (share_mem hc)); omega) h)
  · simp at h; subst h; decide
theorem share_ne {l : List Nat} {i : Nat} (h : i < (l.length + 2) / 3) : share l i ≠ [] := by
  intro z
  have := congrArg List.length z
  unfold share at this
  simp at this
  omega
theorem share_full {l : List Nat} {i : Nat} (h : i + 1 < (l.length + 2) / 3) : (share l i).length = 3 := by
  unfold share
  rw [List.length_take, List.length_drop]; omega
theorem readC_card {l : List Nat} (hs : ∀ c ∈ l, Sg c) {i : Nat} (h : i < (l.length + 2) / 3) : readC ((l.length + 2) / 3) i (card l i) = some (share l i) := by
  have h0 := share_ne h
  have h3 := share_len l i
  unfold readC
  rw [if_pos (by unfold card fig; rfl), card_eq, pairs_card _ h0 h3, strip_dots, strip_none (by simpa using h0) (by intro p hp; obtain ⟨c, _, rfl⟩ := List.mem_map.mp hp; exact dots_fig _), dec_share fun c hc => hs c (share_mem hc)]
  simp only
  rw [if_neg]
  rintro (z | ⟨z1, z2⟩)
  · exact h0 z
  · have := share_full z2; omega
theorem rd_deck {l : List Nat} (hs : ∀ c ∈ l, Sg c) : rd (deck l).length 0 (deck l) = .ok l := by
  have hn : (deck l).length = (l.length + 2) / 3 := by simp [deck]
  have key : ∀ (m i : Nat), i + m = (l.length + 2) / 3 → rd ((l.length + 2) / 3) i ((List.range' i m).map (card l)) = .ok (l.drop (3 * i)) := by
    intro m
    induction m with
    | zero =>
      intro i h
      simp only [List.range'_zero, List.map_nil, rd]
      rw [List.drop_eq_nil_of_le (by omega)]
    | succ m ih =>
      intro i h
      simp only [List.range'_succ, List.map_cons, rd]
      rw [readC_card hs (by omega), ih (i + 1) (by omega)]
      simp only [Rd.put]
      congr 1
      unfold share
      rw [show 3 * (i + 1) = 3 * i + 3 by omega, ← List.drop_drop, List.take_append_drop]
  rw [hn]
  unfold deck
  rw [List.range_eq_range', key _ _ (by omega)]
  rfl
theorem okL_sign {x : List Nat} (h : ∀ c ∈ x, c ∈ SIGN) : okL x := fun c hc => by
  have := h c hc
  simp [SIGN] at this
  omega
theorem deck_ok {l : List Nat} (hs : ∀ c ∈ l, Sg c) : ∀ c ∈ deck l, c.length = 8 ∧ ∀ x ∈ c, x ∈ SIGN := fun c hc => by
  obtain ⟨i, _, rfl⟩ := List.mem_map.mp hc
  exact ⟨card_len, fun x hx => card_mem hs hx⟩
theorem deck_okL {l : List Nat} (hs : ∀ c ∈ l, Sg c) : ∀ c ∈ deck l, okL c := fun c hc => okL_sign (deck_ok hs c hc).2
/-! a bent card -/
theorem rd_bad {n : Nat} {x : List Nat} {post : List (List Nat)} : ∀ {pre : List (List Nat)} {i : Nat}, (∀ j c, pre[j]? = some c → ∃ s, readC n (i + j) c = some s) → readC n (i + pre.length) x = none → rd n i (pre ++ x :: post) = .at (i + pre.length)
  | [], i, _, h => by simp only [List.nil_append, rd, List.length_nil, Nat.add_zero] at h ⊢; rw [h]
  | c :: pre, i, hp, h => by
    obtain ⟨s, e⟩ := hp 0 c rfl
    simp only [List.cons_append, rd]
    rw [show i = i + 0 from rfl, e]
    simp only [Nat.add_zero]
    rw [rd_bad (pre := pre) (i := i + 1) (fun j c' hj => by have := hp (j + 1) c' (by simpa using hj); rwa [show i + 1 + j = i + (j + 1) by omega]) (by rw [show i + 1 + pre.length = i + (c :: pre).length by simp; omega]; exact h)]
    simp only [Rd.put, List.length_cons]
    congr 1; omega
theorem strip_cons {p : List Nat} {r : List (List Nat)} (h : dots p = false) : ∃ q, strip (p :: r) = p :: q := by
  unfold strip
  rw [List.reverse_cons]
  by_cases e : r.reverse.dropWhile dots = []
  · refine ⟨[], ?_⟩
    rw [List.dropWhile_append, e]
    simp [h]
  · refine ⟨(r.reverse.dropWhile dots).reverse, ?_⟩
    rw [List.dropWhile_append]
    have : (r.reverse.dropWhile dots).isEmpty = false := by cases q : r.reverse.dropWhile dots with
      | nil => exact absurd q e
      | cons _ _ => rfl
    rw [this]; simp
theorem dec_first {p : List Nat} {r : List (List Nat)} (h : dots p = false) (e : sgnL p = none) : dec (strip (p :: r)) = none := by
  obtain ⟨q, z⟩ := strip_cons (r := r) h
  rw [z]; simp only [dec, e]
/-- a card that is none at its place -/
def Bent (n i : Nat) (x : List Nat) : Prop := x.length = 8 ∧ (∀ c ∈ x, c ∈ SIGN) ∧ readC n i x = none
theorem none_pairs {n i : Nat} {x : List Nat} (h : dec (strip (pairs x)) = none) : readC n i x = none := by
  unfold readC
  rw [h]; simp
theorem none_head {n i : Nat} {x : List Nat} (h : x.take 2 ≠ fig (i % 100)) : readC n i x = none := by
  unfold readC
  rw [if_neg h]
theorem eight {c : List Nat} (h : c.length = 8) : ∃ h0 h1 p q r s t u, c = [h0, h1, p, q, r, s, t, u] := by
  match c, h with
  | [h0, h1, p, q, r, s, t, u], _ => exact ⟨_, _, _, _, _, _, _, _, rfl⟩
theorem bents {l : List Nat} (hs : ∀ c ∈ l, Sg c) {i : Nat} (hi : i < (l.length + 2) / 3) {h0 h1 p q r s t u : Nat} (e : card l i = [h0, h1, p, q, r, s, t, u]) {x : List Nat}
    (hx : x = [h0, h1, 57, 54, r, s, t, u] ∨ x = [h0, h1, 120, 48, r, s, t, u] ∨ x = [h0, h1, 46, 46, 46, 46, 46, 46] ∨ x = [h0, h1, 46, 46, r, s, 48, 48] ∨ x = [h0, h1, 48, 46, r, s, t, u] ∨ x = [120, h1, p, q, r, s, t, u] ∨ x = [h0, 46, p, q, r, s, t, u] ∨
      x = [h0, 48 + (i % 100 % 10 + 1) % 10, p, q, r, s, t, u] ∨ (i + 1 < (l.length + 2) / 3 ∧ (x = [h0, h1, p, q, r, s, 46, 46] ∨ x = [h0, h1, p, q, 46, 46, 46, 46]))) : Bent ((l.length + 2) / 3) i x := by
  have hm : ∀ c, c ∈ [h0, h1, p, q, r, s, t, u] → c ∈ SIGN := fun c hc => card_mem hs (i := i) (by rw [e]; exact hc)
  have hf : [h0, h1] = fig (i % 100) := by
    have := congrArg (List.take 2) e
    exact this.symm.trans (by unfold card fig; rfl)
  have m46 : 46 ∈ SIGN := by decide
  have m48 : 48 ∈ SIGN := by decide
  have m120 : 120 ∈ SIGN := by decide
  have f0 : h0 = 48 + i % 100 / 10 := by have := congrArg List.head? hf; simpa [fig] using this
  have f1 : h1 = 48 + i % 100 % 10 := by have := congrArg (fun z : List Nat => z[1]?) hf; simpa [fig] using this
  have mem : ∀ {y : List Nat}, (∀ c ∈ y, c ∈ [h0, h1, p, q, r, s, t, u] ∨ c ∈ SIGN) → ∀ c ∈ y, c ∈ SIGN := fun h c hc => (h c hc).elim (hm c) id
  rcases hx with rfl | rfl | rfl | rfl | rfl | rfl | rfl | rfl | ⟨hn, hx⟩
  · refine ⟨rfl, mem fun c hc => ?_, none_pairs (dec_first (show dots [57, 54] = false by decide) (show sgnL [57, 54] = none by decide))⟩
    simp only [List.mem_cons, List.not_mem_nil, or_false] at hc ⊢
    rcases hc with h | h | h | h | h | h | h | h <;> subst h <;> first | exact .inr (by decide) | simp
  · refine ⟨rfl, mem fun c hc => ?_, none_pairs (dec_first (show dots [120, 48] = false by decide) (show sgnL [120, 48] = none by decide))⟩
    simp only [List.mem_cons, List.not_mem_nil, or_false] at hc ⊢
    rcases hc with h | h | h | h | h | h | h | h <;> subst h <;> first | exact .inr (by decide) | simp
  · refine ⟨rfl, mem fun c hc => ?_, ?_⟩
    · simp only [List.mem_cons, List.not_mem_nil, or_false] at hc ⊢
      rcases hc with h | h | h | h | h | h | h | h <;> subst h <;> first | exact .inr (by decide) | simp
    · unfold readC
      rw [show dec (strip (pairs [h0, h1, 46, 46, 46, 46, 46, 46])) = some [] from rfl]
      simp
  · refine ⟨rfl, mem fun c hc => ?_, none_pairs ?_⟩
    · simp only [List.mem_cons, List.not_mem_nil, or_false] at hc ⊢
      rcases hc with h | h | h | h | h | h | h | h <;> subst h <;> first | exact .inr (by decide) | simp
    · have : strip (pairs [h0, h1, 46, 46, r, s, 48, 48]) = [[46, 46], [r, s], [48, 48]] := by
        show strip ([[46, 46], [r, s]] ++ [[48, 48]]) = _
        rw [strip_snoc, if_neg (by decide)]; rfl
      rw [this]; rfl
  · refine ⟨rfl, mem fun c hc => ?_, none_pairs (dec_first (show dots [48, 46] = false by decide) (show sgnL [48, 46] = none by decide))⟩
    simp only [List.mem_cons, List.not_mem_nil, or_false] at hc ⊢
    rcases hc with h | h | h | h | h | h | h | h <;> subst h <;> first | exact .inr (by decide) | simp
  · refine ⟨rfl, mem fun c hc => ?_, none_head ?_⟩
    · simp only [List.mem_cons, List.not_mem_nil, or_false] at hc ⊢
      rcases hc with h | h | h | h | h | h | h | h <;> subst h <;> first | exact .inr (by decide) | simp
    · intro z
      have := congrArg List.head? z
      simp [fig] at this; omega
  · refine ⟨rfl, mem fun c hc => ?_, none_head ?_⟩
    · simp only [List.mem_cons, List.not_mem_nil, or_false] at hc ⊢
      rcases hc with h | h | h | h | h | h | h | h <;> subst h <;> first | exact .inr (by decide) | simp
    · intro z
      have := congrArg (fun z : List Nat => z[1]?) z
      simp [fig] at this; omega
  · refine ⟨rfl, mem fun c hc => ?_, none_head ?_⟩
    · simp only [List.mem_cons, List.not_mem_nil, or_false] at hc ⊢
      rcases hc with h | h | h | h | h | h | h | h <;> first | (subst h; simp; done) | skip
      refine .inr (figs_sign (fig_mem (n := (i % 100 % 10 + 1) % 10) (by omega) ?_))
      subst h
      simp [fig]
    · intro z
      have := congrArg (fun z : List Nat => z[1]?) z
      simp [fig] at this; omega
  · have h3 := share_full hn
    have hp := pairs_card (i % 100) (share_ne hi) (share_len l i)
    rw [← card_eq, e, h3] at hp
    obtain ⟨a, b, c, hsh⟩ : ∃ a b c, share l i = [a, b, c] := by
      match share l i, h3 with
      | [a, b, c], _ => exact ⟨a, b, c, rfl⟩
    rw [hsh] at hp
    have hp : [[p, q], [r, s], [t, u]] = [fig (cd a), fig (cd b), fig (cd c)] := hp
    simp only [List.cons.injEq, and_true] at hp
    obtain ⟨e1, e2, e3⟩ := hp
    have sa : Sg a := hs a (share_mem (i := i) (by rw [hsh]; simp))
    have sb : Sg b := hs b (share_mem (i := i) (by rw [hsh]; simp))
    rcases hx with rfl | rfl
    · refine ⟨rfl, mem fun c hc => ?_, ?_⟩
      · simp only [List.mem_cons, List.not_mem_nil, or_false] at hc ⊢
        rcases hc with h | h | h | h | h | h | h | h <;> subst h <;> first | exact .inr (by decide) | simp
      · have : dec (strip (pairs [h0, h1, p, q, r, s, 46, 46])) = some [a, b] := by
          show dec (strip ([[p, q], [r, s]] ++ List.replicate 1 [46, 46])) = _
          rw [strip_dots, e1, e2, strip_none (by simp) (by intro z hz; simp at hz; rcases hz with rfl | rfl <;> exact dots_fig _)]
          exact dec_share (s := [a, b]) (by intro z hz; simp at hz; rcases hz with rfl | rfl; exact sa; exact sb)
        unfold readC
        rw [this]
        simp only
        split
        · rw [if_pos (.inr ⟨by simp, hn⟩)]
        · rfl
    · refine ⟨rfl, mem fun c hc => ?_, ?_⟩
      · simp only [List.mem_cons, List.not_mem_nil, or_false] at hc ⊢
        rcases hc with h | h | h | h | h | h | h | h <;> subst h <;> first | exact .inr (by decide) | simp
      · have : dec (strip (pairs [h0, h1, p, q, 46, 46, 46, 46])) = some [a] := by
          show dec (strip ([[p, q]] ++ List.replicate 2 [46, 46])) = _
          rw [strip_dots, e1, strip_none (by simp) (by intro z hz; simp at hz; rcases hz with rfl; exact dots_fig _)]
          exact dec_share (s := [a]) (by intro z hz; simp at hz; rcases hz with rfl; exact sa)
        unfold readC
        rw [this]
        simp only
        split
        · rw [if_pos (.inr ⟨by simp, hn⟩)]
        · rfl
end E
end
section
set_option Elab.async false
set_option linter.all false
set_option maxRecDepth 100000
set_option maxHeartbeats 4000000
open PySem PySem.Spec L2 Cr
local macro_rules | `(tactic| walk_at "side") => `(tactic| first | assumption | decide | (simp only [sizeLine_eq, List.length_append, List.length_cons, List.length_nil, List.length_map, List.length_take, List.length_drop, List.length_replicate, Nat.zero_add]; omega) | (constructor <;> first | omega | decide))
local macro_rules | `(tactic| walk_at "m1") => `(tactic| first
  | with_reducible refine w_seq ?_
  | with_reducible refine k_nx ?_
  | with_reducible refine k_rt ?_
  | with_reducible refine k_bk ?_
  | with_reducible refine k_ct ?_
  | with_reducible refine w_pure ?_
  | ((with_reducible refine' w_get ?e ?_); (case e => exact rfl))
  | with_reducible refine w_asg ?_
  | with_reducible refine w_asgO ?_
  | with_reducible refine k_o ?_
  | with_reducible refine w_asgT ?_
  | with_reducible refine w_aug ?_
  | with_reducible refine w_ret ?_
  | with_reducible refine w_nx ?_
  | with_reducible refine w_exp ?_
  | with_reducible refine w_ife ?_
  | with_reducible refine w_band ?_
  | with_reducible refine w_bor ?_
  | with_reducible refine w_bnot ?_
  | with_reducible refine w_cmpB ?_
  | with_reducible refine w_tru ?_
  | with_reducible refine w_dB ?_
  | with_reducible refine w_dTru ?_
  | with_reducible refine w_andV ?_
  | with_reducible refine w_orV ?_
  | with_reducible refine k_and ?_
  | with_reducible refine k_or ?_
  | with_reducible refine k_not ?_
  | with_reducible refine w_notV ?_
  | with_reducible refine w_chain ?_
  | with_reducible refine w_op2 ?_
  | with_reducible refine w_op1 ?_
  | with_reducible refine w_tupL ?_
  | with_reducible refine w_lstL ?_
  | with_reducible refine w_nil ?_
  | with_reducible refine w_cons ?_
  | with_reducible refine w_anil ?_
  | with_reducible refine w_av ?_
  | with_reducible refine w_ao ?_
  | with_reducible refine w_callL ?_
  | with_reducible refine w_callRL ?_
  | ((with_reducible refine w_chk ?e ?_); (case e => exact rfl))
  | with_reducible refine w_bltL ?_
  | with_reducible refine w_isiI ?_
  | with_reducible refine w_isiB ?_
  | with_reducible refine w_isiS ?_
  | with_reducible refine w_isiL ?_
  | with_reducible refine w_isiT ?_
  | with_reducible refine w_cut ?_
  | with_reducible refine w_noI ?_
  | with_reducible refine w_someI ?_
  | with_reducible refine w_dI ?_
  | with_reducible refine w_ixO ?_
  | with_reducible refine w_setIx ?_
  | with_reducible refine w_par ?_
  | with_reducible refine w_setD ?_
  | with_reducible refine w_setO ?_
  | with_reducible refine w_setNil ?_
  | with_reducible refine w_setCons ?_
  | ((with_reducible refine w_setTup ?e ?_); (case e => exact rfl))
  | with_reducible refine w_mO ?_
  | ((with_reducible refine' w_app ?e ?l ?_); (case e => exact rfl); (case l => walk_at "side"))
  | ((with_reducible refine' w_ext ?e ?l ?_); (case e => exact rfl); (case l => walk_at "side"))
  | with_reducible refine w_lc ?_
  | with_reducible refine w_for ?_
  | with_reducible refine w_src ?_
  | with_reducible refine w_srcL ?_
  | with_reducible refine w_srcT ?_
  | with_reducible refine w_srcS ?_
  | ((with_reducible refine' w_srcOwn ?e ?_); (case e => exact rfl))
  | with_reducible refine w_rg ?_
  | with_reducible refine w_enum ?_
  | with_reducible refine w_zip ?_
  | with_reducible refine w_raise ?_
  | with_reducible refine w_raise1 ?_
  | with_reducible refine o_add ?_
  | with_reducible refine o_iadd ?_
  | with_reducible refine o_sub ?_
  | with_reducible refine o_neg ?_
  | ((with_reducible refine o_mul ?e ?_); (case e => first | exact mulOk_r (by omega) | exact mulOk_l (by omega)))
  | ((with_reducible refine o_div ?e ?_); (case e => decide))
  | ((with_reducible refine o_div2 ?e ?_); (case e => constructor <;> omega))
  | ((with_reducible refine o_mod ?e ?_); (case e => first | decide | omega))
  | ((with_reducible refine o_pow ?e ?_); (case e => decide))
  | ((with_reducible refine' o_ixL ?e ?_); (case e => exact rfl))
  | ((with_reducible refine' o_ixT ?e ?_); (case e => exact rfl))
  | ((with_reducible refine' w_putIx ?e ?f ?_); (case e => exact rfl); (case f => exact rfl))
  | with_reducible refine o_abs ?_
  | with_reducible refine o_lt ?_
  | with_reducible refine o_le ?_
  | with_reducible refine o_gt ?_
  | with_reducible refine o_ge ?_
  | with_reducible refine o_eqI ?_
  | with_reducible refine o_neI ?_
  | with_reducible refine o_eqS ?_
  | with_reducible refine o_neS ?_
  | with_reducible refine o_int ?_
  | with_reducible refine o_isN ?_
  | with_reducible refine o_isNotN ?_
  | with_reducible refine o_isB ?_
  | with_reducible refine o_isNotB ?_
  | ((with_reducible refine o_addS ?e ?_); (case e => walk_at "side"))
  | ((with_reducible refine o_iaddS ?e ?_); (case e => walk_at "side"))
  | ((with_reducible refine o_addL ?e ?_); (case e => walk_at "side"))
  | ((with_reducible refine o_addT ?e ?_); (case e => walk_at "side"))
  | with_reducible refine o_inC ?_
  | with_reducible refine o_niC ?_
  | ((with_reducible refine o_lenS ?e ?_); (case e => walk_at "side"))
  | with_reducible refine o_lenL ?_
  | with_reducible refine o_lenT ?_
  | with_reducible refine o_ord ?_
  | ((with_reducible refine o_cutS ?e ?_); (case e => walk_at "side"))
  | with_reducible refine o_cutL ?_
  | with_reducible refine o_cutT ?_
  | with_reducible refine o_cutX ?_
  | ((with_reducible refine o_tup ?e ?_); (case e => walk_at "side"))
  | ((with_reducible refine o_lst ?e ?_); (case e => walk_at "side"))
  | with_reducible refine o_tuple ?_
  | with_reducible refine o_tuple2 ?_
  | with_reducible refine o_list ?_
  | with_reducible refine o_list2 ?_
  | with_reducible refine w_lamW ?_
  | ((with_reducible refine o_mulS ?e ?_); (case e => decide))
  | ((with_reducible refine o_mulT ?e ?_); (case e => exact ⟨by simp, by decide, by decide, by simp⟩))
  | with_reducible refine w_ct ?_
  | with_reducible refine w_cf ?_
  | with_reducible refine w_mt ?_
  | with_reducible refine ty_s ?_
  | with_reducible refine ty_l ?_
  | ((with_reducible refine o_rg1 ?e ?_); (case e => exact smallI_of (by omega)))
  | ((with_reducible refine o_rg2 ?e ?_); (case e => exact ⟨smallI_of (by omega), smallI_of (by omega)⟩))
  | ((with_reducible refine o_rg3 ?e ?_); (case e => exact ⟨smallI_of (by omega), smallI_of (by omega), by decide, by decide⟩))
  | with_reducible refine ke_rt0 ?_
  | with_reducible refine ke_nx0 ?_
  | (refine k_t' ?e ?_; (case e => exact rfl))
  | (refine k_f' ?e ?_; (case e => exact rfl)))
local macro_rules | `(tactic| walk_at "m") => `(tactic| repeat walk_at "m1")

namespace E
open PySem PySem.Spec L2 Cr
set_option autoImplicit false
section
variable {E : Xc → Ev → Prop}
theorem sp__law_any_1 {h : D} {some_ : List D} {Q : D → Ev → Prop} (hh : Hand h) (hm : some_ ≠ []) (hm2 : some_.length < 1000000) (k : ∀ (v : D) h' ρ, Hand h' → v ∈ some_ → ρ[0]? = some (some h') → ρ[1]? = some (some (.list some_)) → Q v ρ) : (m__law_any_1 [h, .list some_]).wp Q E := by
  rw [x__law_any_1_eq]
  refine w_run rfl ?_
  unfold x__law_any_1
  simp only [ini, nones, Nat.reduceSub]
  walk_at "m"
  have hp : 0 < some_.length := List.length_pos_iff.mpr hm
  refine w_callO rfl rfl rfl (sp__law_draw hh (by omega) (by omega) fun v h' ρ' hh' h0 h1 e => ⟨h', e, ?_⟩)
  walk_at "m"
  refine o_ixL (atI_lt h0 h1) ?_
  walk_at "m"
  exact ke_rt (by obtain ⟨ds, rfl⟩ := hh'.lst; rfl) (k _ _ _ hh' (List.getElem_mem _) rfl rfl)
theorem sp__law_code {c : Nat} {Q : D → Ev → Prop} (hc : Sg c) (k : ∀ ρ, Q (.str (mk (fig (cd c)))) ρ) : (m__law_code [.str (mk [c])]).wp Q E := by
  rw [x__law_code_eq]
  refine w_run rfl ?_
  unfold x__law_code
  simp only [ini, nones, Nat.reduceSub]
  have hb : cd c ≤ 95 := cd_le hc
  refine w_seqI (fun ρ' => ρ' = [some (.str (mk [c])), some (.int (cd c : Nat))]) ?_ ?_
  · walk_at "m"
    refine k_if (fun h => ?_) (fun h => ?_)
    · have h : c = 10 := by simpa using h
      walk_at "m"
      show _ = _
      subst h; rfl
    · have h : c ≠ 10 := by simpa using h
      walk_at "m"
      show _ = _
      simp only [List.set]
      have : (c : Int) - 32 = (cd c : Nat) := by unfold cd; rw [if_neg h]; rcases hc with h | h <;> omega
      rw [this]
  · rintro ρ' rfl
    walk_at "m"
    refine o_str1 (by omega) (by omega) ?_
    walk_at "m"
    refine o_str1 (by omega) (by omega) ?_
    walk_at "m"
    have e : [48 + ((cd c : Nat) / 10 : Int).toNat] ++ [48 + ((cd c : Nat) % 10 : Int).toNat] = fig (cd c) := by
      unfold fig; simp only [List.singleton_append]; congr 1
    rw [e]
    exact k _
theorem sp__law_punched {l : List Nat} {Q : D → Ev → Prop} (hl : l.length ≤ 20000) (hs : ∀ c ∈ l, Sg c) (k : ∀ ρ, Q (strT (deck l)) ρ) : (m__law_punched [.str (mk l)]).wp Q E := by
  rw [x__law_punched_eq]
  refine w_run rfl ?_
  unfold x__law_punched
  simp only [ini, nones, Nat.reduceSub]
  walk_at "m"
  simp only [cnt3, List.set]
  refine w_forGo (α := Nat) (fun pre _ ρ' => ∃ o2 o3 o4 o5 o6 : Option D, ρ' = [some (.str (mk l)), some (.list ((pre.map (card l)).map fun x => .str (mk x))), o2, o3, o4, o5, o6]) (List.range ((l.length + 2) / 3)) (fun i => .int (0 + (i : Int) * 3)) ?_ ?_ ?_ ?_
  · exact ⟨_, _, _, _, _, rfl⟩
  · exact fun _ _ _ _ => rfl
  · rintro pre i post ρ' he ⟨o2, o3, o4, o5, o6, rfl⟩
    have hi : i < (l.length + 2) / 3 := List.mem_range.mp (by rw [he]; simp)
    have hpre : pre.length ≤ 20000 := by
      have := congrArg List.length he
      simp at this; omega
    have sl := share_len l i
    have cl := codes_len (share l i)
    walk_at "m"
    simp only [cut_share, List.set]
    walk_at "m"
    refine o_str1 (by omega) (by omega) ?_
    walk_at "m"
    refine o_str1 (by omega) (by omega) ?_
    walk_at "m"
    have e2 : [48 + ((0 + (i : Int) * 3) / 3 % 100 / 10).toNat] ++ [48 + ((0 + (i : Int) * 3) / 3 % 100 % 10).toNat] = fig (i % 100) := by
      rw [show ((0 + (i : Int) * 3) / 3 % 100 / 10).toNat = i % 100 / 10 by omega, show ((0 + (i : Int) * 3) / 3 % 100 % 10).toNat = i % 100 % 10 by omega]; rfl
    rw [e2]
    try simp only [List.set]
    refine w_lcMap (share l i) (fun c => .str (mk [c])) (fun c => .str (mk (fig (cd c)))) (fun c hc => turn_map ?_) ?_ rfl (by rw [sizeLine_eq]; omega)
    · simp only [wipeE, List.set]
      walk_at "m"
      exact w_callP rfl rfl (sp__law_code (hs c (share_mem hc)) fun _ => ⟨rfl, rfl⟩)
    walk_at "m"
    have e1 : ((share l i).map fun c => (.str (mk (fig (cd c))) : D)) = ((share l i).map fun c => fig (cd c)).map fun x => .str (mk x) := by simp
    rw [e1]
    refine o_join ?_ ?_
    · rw [List.map_map, show ((fun x : List Nat => x.length) ∘ fun c => fig (cd c)) = fun _ => 2 from rfl, sum_map_const (n := 2) (fun _ _ => rfl)]; simp; omega
    rw [join_codes]
    refine o_addS ?_ ?_
    · rw [cl, sizeLine_eq]; simp [fig]; omega
    walk_at "m"
    refine o_mulS ⟨by omega, by omega, by rw [sizeLine_eq]; simp; omega⟩ ?_
    rw [dots_eq _ sl]
    refine o_addS ?_ ?_
    · rw [sizeLine_eq]; simp [fig, cl]; omega
    walk_at "m"
    simp only [List.set, List.map_append, List.map_cons, List.map_nil]
    exact ⟨_, _, _, _, _, rfl⟩
  · rintro ρ' ⟨o2, o3, o4, o5, o6, rfl⟩
    walk_at "m"
    exact k _
def LS : List Nat := (32 :: 33 :: 34 :: 35 :: 36 :: 38 :: 38 :: 39 :: 40 :: 41 :: 42 :: 43 :: 44 :: 45 :: 46 :: 47 :: 48 :: 49 :: 50 :: 51 :: 52 :: 53 :: 54 :: 55 :: 56 :: 57 :: 58 :: 59 :: 60 :: 61 :: 62 :: 63 :: 64 :: []) ++ (65 :: 66 :: 67 :: 68 :: 69 :: 70 :: 71 :: 72 :: 73 :: 74 :: 75 :: 76 :: 77 :: 78 :: 79 :: 80 :: 81 :: 82 :: 83 :: 84 :: 85 :: 86 :: 87 :: 88 :: 89 :: 90 :: 91 :: 92 :: 93 :: 94 :: 95 :: 96 :: 97 :: 98 :: 99 :: 100 :: 101 :: 102 :: 103 :: 104 :: 105 :: 106 :: 107 :: 108 :: 109 :: 110 :: 111 :: 112 :: 113 :: 114 :: 115 :: 116 :: 117 :: 118 :: 119 :: 120 :: 121 :: 122 :: 123 :: 124 :: 125 :: 126 :: [])
theorem LS_len : LS.length = 95 := by decide
theorem LS_sg : ∀ c ∈ LS, Sg c := by unfold Sg; decide
theorem sp__law_signs {Q : D → Ev → Prop} (k : ∀ ρ, Q (.str (mk LS)) ρ) : (m__law_signs []).wp Q E := by
  rw [x__law_signs_eq]
  refine w_run rfl ?_
  unfold x__law_signs
  simp only [ini, nones, Nat.reduceSub]
  walk_at "m"
  exact k _
theorem sp__law_text {h : D} {most : Int} {Q : D → Ev → Prop} (hh : Hand h) (h0 : 0 ≤ most) (h1 : most ≤ 400) (k : ∀ (l : List Nat) h' ρ, Hand h' → l.length ≤ 400 → (∀ c ∈ l, Sg c) → ρ[0]? = some (some h') → Q (.str (mk l)) ρ) : (m__law_text [h, .int most]).wp Q E := by
  rw [x__law_text_eq]
  refine w_run rfl ?_
  unfold x__law_text
  simp only [ini, nones, Nat.reduceSub]
  walk_at "m"
  refine w_callO rfl rfl rfl (sp__law_draw hh (by omega) (by omega) fun v h' ρ' hh' hv0 hv1 e => ⟨h', e, ?_⟩)
  walk_at "m"
  simp only [List.set]
  refine w_forGo (fun pre _ ρ' => ∃ (h : D) (t : List Nat) (o3 o4 : Option D), Hand h ∧ t.length = pre.length ∧ (∀ c ∈ t, Sg c) ∧ ρ' = [some h, some (.int most), some (.str (mk t)), o3, o4]) (List.range v.toNat) (fun i => .int (i : Int)) ?_ (fun _ _ _ _ => rfl) ?_ ?_
  · exact ⟨h', [], _, _, hh', rfl, by simp, rfl⟩
  · rintro pre i post ρ' he ⟨h, t, o3, o4, hh, ht, hs, rfl⟩
    have hpre : pre.length < 400 := by
      have := congrArg List.length he
      simp at this; omega
    walk_at "m"
    refine w_callO rfl rfl rfl (sp__law_draw hh (by decide) (by decide) fun v h' ρ' hh' hv0 hv1 e => ⟨h', e, ?_⟩)
    simp only [List.set]
    walk_at "m"
    refine k_if (fun h => ?_) (fun h => ?_)
    · walk_at "m"
      refine ⟨h', t ++ [10], _, _, hh', by simp [ht], ?_, rfl⟩
      intro c hc
      rcases List.mem_append.mp hc with hc | hc
      · exact hs c hc
      · simp at hc; exact .inl hc
    · have h := of_decide_eq_false h
      walk_at "m"
      refine w_call0 (sp__law_signs fun _ => ?_)
      walk_at "m"
      refine o_ixS (by rw [LS_len, sizeLine_eq]; decide) (atI_lt hv0 (by rw [LS_len]; omega)) ?_
      walk_at "m"
      refine ⟨h', t ++ [_], _, _, hh', by simp [ht], ?_, rfl⟩
      intro c hc
      rcases List.mem_append.mp hc with hc | hc
      · exact hs c hc
      · simp at hc; subst hc; exact LS_sg _ (List.getElem_mem _)
  · rintro ρ' ⟨h, t, o3, o4, hh, ht, hs, rfl⟩
    walk_at "m"
    refine ke_rt hh.live (k t h _ hh ?_ hs rfl)
    rw [ht, List.length_range]; omega
end
end E
end
section
set_option Elab.async false
set_option linter.all false
set_option maxRecDepth 100000
set_option maxHeartbeats 4000000
open PySem PySem.Spec L2 Cr
local macro_rules | `(tactic| walk_at "side") => `(tactic| first | assumption | decide | (simp only [sizeLine_eq, List.length_append, List.length_cons, List.length_nil, List.length_map, List.length_take, List.length_drop, List.length_replicate, Nat.zero_add]; omega) | (constructor <;> first | omega | decide))
local macro_rules | `(tactic| walk_at "m1") => `(tactic| first
  | with_reducible refine w_seq ?_
  | with_reducible refine k_nx ?_
  | with_reducible refine k_rt ?_
  | with_reducible refine k_bk ?_
  | with_reducible refine k_ct ?_
  | with_reducible refine w_pure ?_
  | ((with_reducible refine' w_get ?e ?_); (case e => exact rfl))
  | with_reducible refine w_asg ?_
  | with_reducible refine w_asgO ?_
  | with_reducible refine k_o ?_
  | with_reducible refine w_asgT ?_
  | with_reducible refine w_aug ?_
  | with_reducible refine w_ret ?_
  | with_reducible refine w_nx ?_
  | with_reducible refine w_exp ?_
  | with_reducible refine w_ife ?_
  | with_reducible refine w_band ?_
  | with_reducible refine w_bor ?_
  | with_reducible refine w_bnot ?_
  | with_reducible refine w_cmpB ?_
  | with_reducible refine w_tru ?_
  | with_reducible refine w_dB ?_
  | with_reducible refine w_dTru ?_
  | with_reducible refine w_andV ?_
  | with_reducible refine w_orV ?_
  | with_reducible refine k_and ?_
  | with_reducible refine k_or ?_
  | with_reducible refine k_not ?_
  | with_reducible refine w_notV ?_
  | with_reducible refine w_chain ?_
  | with_reducible refine w_op2 ?_
  | with_reducible refine w_op1 ?_
  | with_reducible refine w_tupL ?_
  | with_reducible refine w_lstL ?_
  | with_reducible refine w_nil ?_
  | with_reducible refine w_cons ?_
  | with_reducible refine w_anil ?_
  | with_reducible refine w_av ?_
  | with_reducible refine w_ao ?_
  | with_reducible refine w_callL ?_
  | with_reducible refine w_callRL ?_
  | ((with_reducible refine w_chk ?e ?_); (case e => exact rfl))
  | with_reducible refine w_bltL ?_
  | with_reducible refine w_isiI ?_
  | with_reducible refine w_isiB ?_
  | with_reducible refine w_isiS ?_
  | with_reducible refine w_isiL ?_
  | with_reducible refine w_isiT ?_
  | with_reducible refine w_cut ?_
  | with_reducible refine w_noI ?_
  | with_reducible refine w_someI ?_
  | with_reducible refine w_dI ?_
  | with_reducible refine w_ixO ?_
  | with_reducible refine w_setIx ?_
  | with_reducible refine w_par ?_
  | with_reducible refine w_setD ?_
  | with_reducible refine w_setO ?_
  | with_reducible refine w_setNil ?_
  | with_reducible refine w_setCons ?_
  | ((with_reducible refine w_setTup ?e ?_); (case e => exact rfl))
  | with_reducible refine w_mO ?_
  | ((with_reducible refine' w_app ?e ?l ?_); (case e => exact rfl); (case l => walk_at "side"))
  | ((with_reducible refine' w_ext ?e ?l ?_); (case e => exact rfl); (case l => walk_at "side"))
  | with_reducible refine w_lc ?_
  | with_reducible refine w_for ?_
  | with_reducible refine w_src ?_
  | with_reducible refine w_srcL ?_
  | with_reducible refine w_srcT ?_
  | with_reducible refine w_srcS ?_
  | ((with_reducible refine' w_srcOwn ?e ?_); (case e => exact rfl))
  | with_reducible refine w_rg ?_
  | with_reducible refine w_enum ?_
  | with_reducible refine w_zip ?_
  | with_reducible refine w_raise ?_
  | with_reducible refine w_raise1 ?_
  | with_reducible refine o_add ?_
  | with_reducible refine o_iadd ?_
  | with_reducible refine o_sub ?_
  | with_reducible refine o_neg ?_
  | ((with_reducible refine o_mul ?e ?_); (case e => first | exact mulOk_r (by omega) | exact mulOk_l (by omega)))
  | ((with_reducible refine o_div ?e ?_); (case e => decide))
  | ((with_reducible refine o_div2 ?e ?_); (case e => constructor <;> omega))
  | ((with_reducible refine o_mod ?e ?_); (case e => first | decide | omega))
  | ((with_reducible refine o_pow ?e ?_); (case e => decide))
  | ((with_reducible refine' o_ixL ?e ?_); (case e => exact rfl))
  | ((with_reducible refine' o_ixT ?e ?_); (case e => exact rfl))
  | ((with_reducible refine' w_putIx ?e ?f ?_); (case e => exact rfl); (case f => exact rfl))
  | with_reducible refine o_abs ?_
  | with_reducible refine o_lt ?_
  | with_reducible refine o_le ?_
  | with_reducible refine o_gt ?_
  | with_reducible refine o_ge ?_
  | with_reducible refine o_eqI ?_
  | with_reducible refine o_neI ?_
  | with_reducible refine o_eqS ?_
  | with_reducible refine o_neS ?_
  | with_reducible refine o_int ?_
  | with_reducible refine o_isN ?_
  | with_reducible refine o_isNotN ?_
  | with_reducible refine o_isB ?_
  | with_reducible refine o_isNotB ?_
  | ((with_reducible refine o_addS ?e ?_); (case e => walk_at "side"))
  | ((with_reducible refine o_iaddS ?e ?_); (case e => walk_at "side"))
  | ((with_reducible refine o_addL ?e ?_); (case e => walk_at "side"))
  | ((with_reducible refine o_addT ?e ?_); (case e => walk_at "side"))
  | with_reducible refine o_inC ?_
  | with_reducible refine o_niC ?_
  | ((with_reducible refine o_lenS ?e ?_); (case e => walk_at "side"))
  | with_reducible refine o_lenL ?_
  | with_reducible refine o_lenT ?_
  | with_reducible refine o_ord ?_
  | ((with_reducible refine o_cutS ?e ?_); (case e => walk_at "side"))
  | with_reducible refine o_cutL ?_
  | with_reducible refine o_cutT ?_
  | with_reducible refine o_cutX ?_
  | ((with_reducible refine o_tup ?e ?_); (case e => walk_at "side"))
  | ((with_reducible refine o_lst ?e ?_); (case e => walk_at "side"))
  | with_reducible refine o_tuple ?_
  | with_reducible refine o_tuple2 ?_
  | with_reducible refine o_list ?_
  | with_reducible refine o_list2 ?_
  | with_reducible refine w_lamW ?_
  | ((with_reducible refine o_mulS ?e ?_); (case e => decide))
  | ((with_reducible refine o_mulT ?e ?_); (case e => exact ⟨by simp, by decide, by decide, by simp⟩))
  | with_reducible refine w_ct ?_
  | with_reducible refine w_cf ?_
  | with_reducible refine w_mt ?_
  | with_reducible refine ty_s ?_
  | with_reducible refine ty_l ?_
  | ((with_reducible refine o_rg1 ?e ?_); (case e => exact smallI_of (by omega)))
  | ((with_reducible refine o_rg2 ?e ?_); (case e => exact ⟨smallI_of (by omega), smallI_of (by omega)⟩))
  | ((with_reducible refine o_rg3 ?e ?_); (case e => exact ⟨smallI_of (by omega), smallI_of (by omega), by decide, by decide⟩))
  | with_reducible refine ke_rt0 ?_
  | with_reducible refine ke_nx0 ?_
  | (refine k_t' ?e ?_; (case e => exact rfl))
  | (refine k_f' ?e ?_; (case e => exact rfl)))
local macro_rules | `(tactic| walk_at "m") => `(tactic| repeat walk_at "m1")

namespace E
open PySem PySem.Spec L2 Cr
set_option autoImplicit false
section
variable {a b c d e f g h : Nat}
theorem c8_02 : cutD [a, b, c, d, e, f, g, h] none (some 2) = [a, b] := rfl
theorem c8_40 : cutD [a, b, c, d, e, f, g, h] (some 4) none = [e, f, g, h] := rfl
theorem c8_46 : cutD [a, b, c, d, e, f, g, h] (some 4) (some 6) = [e, f] := rfl
theorem c8_10 : cutD [a, b, c, d, e, f, g, h] (some 1) none = [b, c, d, e, f, g, h] := rfl
theorem c8_01 : cutD [a, b, c, d, e, f, g, h] none (some 1) = [a] := rfl
theorem c8_20 : cutD [a, b, c, d, e, f, g, h] (some 2) none = [c, d, e, f, g, h] := rfl
theorem c8_06 : cutD [a, b, c, d, e, f, g, h] none (some 6) = [a, b, c, d, e, f] := rfl
theorem c8_04 : cutD [a, b, c, d, e, f, g, h] none (some 4) = [a, b, c, d] := rfl
theorem c8_1 : L2.atI [a, b, c, d, e, f, g, h] 1 = some b := rfl
end
section
variable {E : Xc → Ev → Prop}
theorem o_intC {n : Nat} {ρ : Ev} {Q : D → Ev → Prop} (hn : n < 10) (q : Q (.int (n : Nat)) ρ) : wp (M.lift (dInt [.str (mk [48 + n])])) ρ Q E := by
  refine w_lift (a := .int (n : Nat)) ?_ q
  have : n = 0 ∨ n = 1 ∨ n = 2 ∨ n = 3 ∨ n = 4 ∨ n = 5 ∨ n = 6 ∨ n = 7 ∨ n = 8 ∨ n = 9 := by omega
  rcases this with rfl | rfl | rfl | rfl | rfl | rfl | rfl | rfl | rfl | rfl <;> kernel_rfl
theorem getElem_card {l : List Nat} {i : Nat} (hi : i < (l.length + 2) / 3) : (deck l)[i]? = some (card l i) := by
  unfold deck
  rw [List.getElem?_map, List.getElem?_range hi]; rfl
theorem sp__law_bent {h : D} {l : List Nat} {Q : D → Ev → Prop} (hh : Hand h) (hs : ∀ c ∈ l, Sg c) (hl : l.length ≤ 400) (hne : l ≠ [])
    (k : ∀ (i : Nat) (x : List Nat) h' ρ, Hand h' → i < (l.length + 2) / 3 → Bent ((l.length + 2) / 3) i x → ρ[0]? = some (some h') → Q (.tuple [strT ((deck l).take i ++ [x] ++ (deck l).drop (i + 1)), .int (i : Nat)]) ρ) : (m__law_bent [h, strT (deck l)]).wp Q E := by
  have hn : (deck l).length = (l.length + 2) / 3 := by simp [deck]
  have hpos : 0 < l.length := List.length_pos_iff.mpr hne
  rw [x__law_bent_eq]
  refine w_run rfl ?_
  unfold x__law_bent
  simp only [ini, nones, Nat.reduceSub]
  unfold strT
  walk_at "m"
  simp only [List.length_map, hn]
  refine w_callO rfl rfl rfl (sp__law_draw hh (by omega) (by omega) fun v h1 ρ' hh1 hv0 hv1 e => ⟨h1, e, ?_⟩)
  obtain ⟨i, rfl⟩ : ∃ i : Nat, v = (i : Int) := ⟨v.toNat, by omega⟩
  have hi : i < (l.length + 2) / 3 := by omega
  obtain ⟨h0, h1', p, q, r, s, t, u, ec⟩ := eight (card_len (l := l) (i := i))
  have hf : [h0, h1'] = fig (i % 100) := by
    have := congrArg (List.take 2) ec
    exact this.symm.trans (by unfold card fig; rfl)
  have f1 : h1' = 48 + i % 100 % 10 := by have := congrArg (fun z : List Nat => z[1]?) hf; simpa [fig] using this
  subst f1
  walk_at "m"
  have ea : L2.atI ((deck l).map fun x => (.str (mk x) : D)) (i : Int) = some (.str (mk (card l i))) := by
    rw [atI_nn (by omega), List.getElem?_map, Int.toNat_natCast, getElem_card hi]; rfl
  refine o_ixT ea ?_
  rw [ec]
  walk_at "m"
  repeat (first | (simp only [c8_02, c8_40, c8_46, c8_10, c8_01, c8_20, c8_06, c8_04]; walk_at "m"))
  refine o_ixS (by walk_at "side") c8_1 ?_
  walk_at "m"
  refine o_intC (by omega) ?_
  walk_at "m"
  refine o_str1 (by omega) (by omega) ?_
  walk_at "m"
  repeat (first | (simp only [c8_02, c8_40, c8_46, c8_10, c8_01, c8_20, c8_06, c8_04]; walk_at "m"))
  simp only [List.set]
  have e7 : ((((i % 100 % 10 : Nat) : Int) + 1) % 10).toNat = (i % 100 % 10 + 1) % 10 := by omega
  have ten : ∀ {x : List Nat}, _ → Bent ((l.length + 2) / 3) i x := fun {x} hx => bents hs hi ec (x := x) hx
  refine kif_mid (fun ρ' => ∃ sm : List D, sm ≠ [] ∧ sm.length < 20 ∧ (∀ v ∈ sm, ∃ x, v = .str (mk x) ∧ Bent ((l.length + 2) / 3) i x) ∧ ρ' = [some h1, some (.tuple ((deck l).map fun x => .str (mk x))), some (.int (i : Nat)), some (.str (mk [h0, 48 + i % 100 % 10, p, q, r, s, t, u])), some (.list sm)]) ?_ ?_
  · refine k_if (fun hc => ?_) (fun hc => ?_)
    · have hc := of_decide_eq_true hc
      rw [List.length_map, hn] at hc
      walk_at "m"
      repeat (first | (simp only [c8_02, c8_40, c8_46, c8_10, c8_01, c8_20, c8_06, c8_04]; walk_at "m"))
      rw [e7]
      refine ⟨_, ?_, ?_, ?_, rfl⟩
      · simp
      · simp
      · intro v hv
        simp only [List.mem_append, List.mem_cons, List.not_mem_nil, or_false] at hv
        rcases hv with (((((hv | hv | hv) | hv) | hv | hv | hv) | hv) | hv | hv) <;> subst hv <;> refine ⟨_, rfl, ten ?_⟩
        · exact .inl rfl
        · exact .inr (.inl rfl)
        · exact .inr (.inr (.inl rfl))
        · exact .inr (.inr (.inr (.inl rfl)))
        · exact .inr (.inr (.inr (.inr (.inl rfl))))
        · exact .inr (.inr (.inr (.inr (.inr (.inl rfl)))))
        · exact .inr (.inr (.inr (.inr (.inr (.inr (.inl rfl))))))
        · exact .inr (.inr (.inr (.inr (.inr (.inr (.inr (.inl rfl)))))))
        · exact .inr (.inr (.inr (.inr (.inr (.inr (.inr (.inr ⟨by omega, .inl rfl⟩)))))))
        · exact .inr (.inr (.inr (.inr (.inr (.inr (.inr (.inr ⟨by omega, .inr rfl⟩)))))))
    · walk_at "m"
      rw [e7]
      refine ⟨_, ?_, ?_, ?_, rfl⟩
      · simp
      · simp
      · intro v hv
        simp only [List.mem_append, List.mem_cons, List.not_mem_nil, or_false] at hv
        rcases hv with ((((hv | hv | hv) | hv) | hv | hv | hv) | hv) <;> subst hv <;> refine ⟨_, rfl, ten ?_⟩
        · exact .inl rfl
        · exact .inr (.inl rfl)
        · exact .inr (.inr (.inl rfl))
        · exact .inr (.inr (.inr (.inl rfl)))
        · exact .inr (.inr (.inr (.inr (.inl rfl))))
        · exact .inr (.inr (.inr (.inr (.inr (.inl rfl)))))
        · exact .inr (.inr (.inr (.inr (.inr (.inr (.inl rfl))))))
        · exact .inr (.inr (.inr (.inr (.inr (.inr (.inr (.inl rfl)))))))
  · rintro ρ' ⟨sm, h1m, h2m, h3m, rfl⟩
    walk_at "m"
    rw [cut_0i _ (by omega)]
    refine w_callOO rfl rfl (sp__law_any_1 hh1 h1m (by omega) fun v h' ρ'' hh' hv e0 e1 => ⟨h', _, e0, e1, ?_⟩)
    obtain ⟨x, rfl, hx⟩ := h3m v hv
    simp only [List.set]
    walk_at "m"
    rw [cut_i0 _ (by omega)]
    refine o_addT ?_ ?_
    · rw [sizeLine_eq]; simp; omega
    walk_at "m"
    refine ke_rt hh'.live ?_
    have := k i x h' [some h', some (.tuple ((deck l).map fun x => .str (mk x))), some (.int (i : Nat)), some (.str (mk [h0, 48 + i % 100 % 10, p, q, r, s, t, u])), some (.list sm)] hh' hi hx rfl
    unfold strT at this
    simp only [List.map_append, List.map_take, List.map_drop, List.map_cons, List.map_nil] at this
    exact this
theorem hw_deck : h__law_word ⟨"NoDeck", none⟩ = some (.str (mk [100, 101, 99, 107])) := by kernel_rfl
theorem hw_text : h__law_word ⟨"NoText", none⟩ = some (.str (mk [116, 101, 120, 116])) := by kernel_rfl
theorem hw_many : h__law_word ⟨"TooMany", some ("most", .int 1200)⟩ = some (.tuple [.str (mk [109, 97, 110, 121]), .int 1200]) := by kernel_rfl
theorem hw_card (i : Int) : h__law_word ⟨"BadCard", some ("card", .int i)⟩ = some (.int i) := by kernel_rfl
end
end E
end
section
set_option Elab.async false
set_option linter.all false
set_option maxRecDepth 100000
set_option maxHeartbeats 4000000
open PySem PySem.Spec L2 Cr
local macro_rules | `(tactic| walk_at "side") => `(tactic| first | assumption | decide | (simp only [sizeLine_eq, List.length_append, List.length_cons, List.length_nil, List.length_map, List.length_take, List.length_drop, List.length_replicate, Nat.zero_add]; omega) | (constructor <;> first | omega | decide))
local macro_rules | `(tactic| walk_at "m1") => `(tactic| first
  | with_reducible refine w_seq ?_
  | with_reducible refine k_nx ?_
  | with_reducible refine k_rt ?_
  | with_reducible refine k_bk ?_
  | with_reducible refine k_ct ?_
  | with_reducible refine w_pure ?_
  | ((with_reducible refine' w_get ?e ?_); (case e => exact rfl))
  | with_reducible refine w_asg ?_
  | with_reducible refine w_asgO ?_
  | with_reducible refine k_o ?_
  | with_reducible refine w_asgT ?_
  | with_reducible refine w_aug ?_
  | with_reducible refine w_ret ?_
  | with_reducible refine w_nx ?_
  | with_reducible refine w_exp ?_
  | with_reducible refine w_ife ?_
  | with_reducible refine w_band ?_
  | with_reducible refine w_bor ?_
  | with_reducible refine w_bnot ?_
  | with_reducible refine w_cmpB ?_
  | with_reducible refine w_tru ?_
  | with_reducible refine w_dB ?_
  | with_reducible refine w_dTru ?_
  | with_reducible refine w_andV ?_
  | with_reducible refine w_orV ?_
  | with_reducible refine k_and ?_
  | with_reducible refine k_or ?_
  | with_reducible refine k_not ?_
  | with_reducible refine w_notV ?_
  | with_reducible refine w_chain ?_
  | with_reducible refine w_op2 ?_
  | with_reducible refine w_op1 ?_
  | with_reducible refine w_tupL ?_
  | with_reducible refine w_lstL ?_
  | with_reducible refine w_nil ?_
  | with_reducible refine w_cons ?_
  | with_reducible refine w_anil ?_
  | with_reducible refine w_av ?_
  | with_reducible refine w_ao ?_
  | with_reducible refine w_callL ?_
  | with_reducible refine w_callRL ?_
  | ((with_reducible refine w_chk ?e ?_); (case e => exact rfl))
  | with_reducible refine w_bltL ?_
  | with_reducible refine w_isiI ?_
  | with_reducible refine w_isiB ?_
  | with_reducible refine w_isiS ?_
  | with_reducible refine w_isiL ?_
  | with_reducible refine w_isiT ?_
  | with_reducible refine w_cut ?_
  | with_reducible refine w_noI ?_
  | with_reducible refine w_someI ?_
  | with_reducible refine w_dI ?_
  | with_reducible refine w_ixO ?_
  | with_reducible refine w_setIx ?_
  | with_reducible refine w_par ?_
  | with_reducible refine w_setD ?_
  | with_reducible refine w_setO ?_
  | with_reducible refine w_setNil ?_
  | with_reducible refine w_setCons ?_
  | ((with_reducible refine w_setTup ?e ?_); (case e => exact rfl))
  | with_reducible refine w_mO ?_
  | ((with_reducible refine' w_app ?e ?l ?_); (case e => exact rfl); (case l => walk_at "side"))
  | ((with_reducible refine' w_ext ?e ?l ?_); (case e => exact rfl); (case l => walk_at "side"))
  | with_reducible refine w_lc ?_
  | with_reducible refine w_for ?_
  | with_reducible refine w_src ?_
  | with_reducible refine w_srcL ?_
  | with_reducible refine w_srcT ?_
  | with_reducible refine w_srcS ?_
  | ((with_reducible refine' w_srcOwn ?e ?_); (case e => exact rfl))
  | with_reducible refine w_rg ?_
  | with_reducible refine w_enum ?_
  | with_reducible refine w_zip ?_
  | with_reducible refine w_raise ?_
  | with_reducible refine w_raise1 ?_
  | with_reducible refine o_add ?_
  | with_reducible refine o_iadd ?_
  | with_reducible refine o_sub ?_
  | with_reducible refine o_neg ?_
  | ((with_reducible refine o_mul ?e ?_); (case e => first | exact mulOk_r (by omega) | exact mulOk_l (by omega)))
  | ((with_reducible refine o_div ?e ?_); (case e => decide))
  | ((with_reducible refine o_div2 ?e ?_); (case e => constructor <;> omega))
  | ((with_reducible refine o_mod ?e ?_); (case e => first | decide | omega))
  | ((with_reducible refine o_pow ?e ?_); (case e => decide))
  | ((with_reducible refine' o_ixL ?e ?_); (case e => exact rfl))
  | ((with_reducible refine' o_ixT ?e ?_); (case e => exact rfl))
  | ((with_reducible refine' w_putIx ?e ?f ?_); (case e => exact rfl); (case f => exact rfl))
  | with_reducible refine o_abs ?_
  | with_reducible refine o_lt ?_
  | with_reducible refine o_le ?_
  | with_reducible refine o_gt ?_
  | with_reducible refine o_ge ?_
  | with_reducible refine o_eqI ?_
  | with_reducible refine o_neI ?_
  | with_reducible refine o_eqS ?_
  | with_reducible refine o_neS ?_
  | with_reducible refine o_int ?_
  | with_reducible refine o_isN ?_
  | with_reducible refine o_isNotN ?_
  | with_reducible refine o_isB ?_
  | with_reducible refine o_isNotB ?_
  | ((with_reducible refine o_addS ?e ?_); (case e => walk_at "side"))
  | ((with_reducible refine o_iaddS ?e ?_); (case e => walk_at "side"))
  | ((with_reducible refine o_addL ?e ?_); (case e => walk_at "side"))
  | ((with_reducible refine o_addT ?e ?_); (case e => walk_at "side"))
  | with_reducible refine o_inC ?_
  | with_reducible refine o_niC ?_
  | ((with_reducible refine o_lenS ?e ?_); (case e => walk_at "side"))
  | with_reducible refine o_lenL ?_
  | with_reducible refine o_lenT ?_
  | with_reducible refine o_ord ?_
  | ((with_reducible refine o_cutS ?e ?_); (case e => walk_at "side"))
  | with_reducible refine o_cutL ?_
  | with_reducible refine o_cutT ?_
  | with_reducible refine o_cutX ?_
  | ((with_reducible refine o_tup ?e ?_); (case e => walk_at "side"))
  | ((with_reducible refine o_lst ?e ?_); (case e => walk_at "side"))
  | with_reducible refine o_tuple ?_
  | with_reducible refine o_tuple2 ?_
  | with_reducible refine o_list ?_
  | with_reducible refine o_list2 ?_
  | with_reducible refine w_lamW ?_
  | ((with_reducible refine o_mulS ?e ?_); (case e => decide))
  | ((with_reducible refine o_mulT ?e ?_); (case e => exact ⟨by simp, by decide, by decide, by simp⟩))
  | with_reducible refine w_ct ?_
  | with_reducible refine w_cf ?_
  | with_reducible refine w_mt ?_
  | with_reducible refine ty_s ?_
  | with_reducible refine ty_l ?_
  | ((with_reducible refine o_rg1 ?e ?_); (case e => exact smallI_of (by omega)))
  | ((with_reducible refine o_rg2 ?e ?_); (case e => exact ⟨smallI_of (by omega), smallI_of (by omega)⟩))
  | ((with_reducible refine o_rg3 ?e ?_); (case e => exact ⟨smallI_of (by omega), smallI_of (by omega), by decide, by decide⟩))
  | with_reducible refine ke_rt0 ?_
  | with_reducible refine ke_nx0 ?_
  | ((with_reducible refine k_t' ?e ?_); (case e => exact rfl))
  | ((with_reducible refine k_f' ?e ?_); (case e => exact rfl)))
local macro_rules | `(tactic| walk_at "m") => `(tactic| repeat walk_at "m1")

namespace E
open PySem PySem.Spec L2 Cr
set_option autoImplicit false
theorem flat_len (n c : Nat) : (List.replicate n [c]).flatten.length = n := by
  induction n with
  | zero => rfl
  | succ n ih => rw [List.replicate_succ, List.flatten_cons, List.length_append, ih]; simp; omega
theorem flat_mem {n c x : Nat} (h : x ∈ (List.replicate n [c]).flatten) : x = c := by
  obtain ⟨l, hl, hx⟩ := List.mem_flatten.mp h
  obtain ⟨_, rfl⟩ := List.mem_replicate.mp hl
  simpa using hx
theorem deck_nil {l : List Nat} (h : deck l = []) : l = [] := by
  have := congrArg List.length h
  unfold deck at this
  simp at this
  exact List.length_eq_zero_iff.mp (by omega)
theorem fit_no {d : D} (h : isTupD d = false) : FitT d ∧ deckB d = false := by
  cases d with
  | tuple ds => cases h
  | _ => exact ⟨(by intro ds e; cases e), rfl⟩
theorem fit_add {cs : List (List Nat)} (hc : ∀ c ∈ cs, c.length ≤ 100000) {d : D} (h1 : Fit1 d) (h2 : cardB d = false) : FitT (.tuple ((cs.map fun x => .str (mk x)) ++ [d])) ∧ deckB (.tuple ((cs.map fun x => .str (mk x)) ++ [d])) = false := by
  constructor
  · intro ds e x hx
    cases e
    rcases List.mem_append.mp hx with hx | hx
    · exact fit_str cs hc _ rfl x hx
    · simp at hx; subst hx; exact h1
  · unfold deckB
    simp only [List.all_append, List.all_cons, h2, Bool.false_and, Bool.and_false]
theorem m_law_ok (ns : List Int) (hn : ns.length ≤ 63) : (m_law [.dict [(.none, .list (ns.map .int))]]).wp (fun d _ => d = .bool true) (fun _ _ => False) := by
  rw [x_law_eq]
  refine w_run rfl ?_
  unfold x_law
  simp only [ini, nones, Nat.reduceSub]
  generalize hN : (1200 : Int) = N
  generalize hM : (20001 : Int) = M20
  generalize hK : (401 : Int) = K4
  walk_at "m"
  refine w_callP rfl rfl (sp__law_hand hn fun h _ hh => ?_)
  refine ko_hand hh ?_
  walk_at "m"
  simp only [List.set]
  refine w_forGo (fun _ _ ρ' => ∃ (h : D) (o2 o3 o4 o5 o6 o7 : Option D), Hand h ∧ ρ' = [some (.dict [(.none, .list (ns.map .int))]), some h, o2, o3, o4, o5, o6, o7]) (List.range (Int.toNat 5)) (fun i => .int (i : Int)) ?_ (fun _ _ _ _ => rfl) ?_ ?_
  · exact ⟨h, _, _, _, _, _, _, hh, rfl⟩
  · rintro pre i post ρ' he ⟨h, o2, o3, o4, o5, o6, o7, hh, rfl⟩
    walk_at "m"
    refine w_callO rfl rfl rfl (sp__law_any hh (by simp) (by simp) fun v h1 ρ' hh1 hv e => ⟨h1, e, ?_⟩)
    simp only [List.set]
    obtain ⟨most, rfl, hm0, hm1⟩ : ∃ m : Int, v = .int m ∧ 0 ≤ m ∧ m ≤ 400 := by
      simp only [List.mem_cons, List.not_mem_nil, or_false] at hv
      rcases hv with rfl | rfl | rfl <;> exact ⟨_, rfl, by decide, by decide⟩
    walk_at "m"
    refine w_callO rfl rfl rfl (sp__law_text hh1 hm0 hm1 fun l h2 ρ' hh2 hl hs e => ⟨h2, e, ?_⟩)
    simp only [List.set]
    have hd := deck_ok hs
    have ho := deck_okL hs
    have hnd : (deck l).length = (l.length + 2) / 3 := by simp [deck]
    walk_at "m"
    refine w_callP rfl rfl (sp__law_punched (by omega) hs fun _ => ?_)
    walk_at "m"
    refine w_callP rfl rfl (sp_text_deck (by omega) hs fun _ => ?_)
    walk_at "m"
    refine o_neT ho ho ?_
    rw [decide_eq_true rfl]
    walk_at "m"
    refine w_callP rfl rfl (sp_text_of_deck (by omega) hd ?_)
    rw [rd_deck hs]
    intro ρ
    walk_at "m"
    rw [decide_eq_true rfl]
    walk_at "m"
    refine w_callP rfl rfl (sp_is_deck (fit_str _ fun c hc => by have := (hd c hc).1; omega) fun _ => ?_)
    rw [deckB_str (by omega) hd]
    walk_at "m"
    refine w_callP rfl rfl (sp_is_punched (by omega) hd ho ?_)
    rw [rd_deck hs]
    refine ⟨by omega, hs, ho, fun _ => ?_⟩
    rw [decide_eq_true rfl]
    walk_at "m"
    refine o_neT (ys := []) ho (by simp) ?_
    walk_at "m"
    simp only [List.set]
    refine kif_mid (fun ρ' => ∃ (h : D) (o5 o6 : Option D), Hand h ∧ ρ' = [some (.dict [(.none, .list (ns.map .int))]), some h, some (.int (i : Int)), some (.str (mk l)), some (strT (deck l)), o5, o6, o7]) ?_ ?_
    · refine k_if (fun hx => ?_) (fun hx => ?_)
      · have hne : l ≠ [] := fun z => by subst z; simp [deck] at hx
        walk_at "m"
        refine w_callO rfl rfl rfl (sp__law_bent hh2 hs hl hne fun j x h3 ρ' hh3 hj hx e => ⟨h3, e, ?_⟩)
        simp only [List.set]
        walk_at "m"
        obtain ⟨hx1, hx2, hx3⟩ := hx
        have hcl : ((deck l).take j ++ [x] ++ (deck l).drop (j + 1)).length = (l.length + 2) / 3 := by simp; omega
        have hd2 : ∀ c ∈ (deck l).take j ++ [x] ++ (deck l).drop (j + 1), c.length = 8 ∧ ∀ x ∈ c, x ∈ SIGN := fun c hc => by
          rcases List.mem_append.mp hc with hc | hc
          · rcases List.mem_append.mp hc with hc | hc
            · exact hd c (List.mem_of_mem_take hc)
            · simp at hc; subst hc; exact ⟨hx1, hx2⟩
          · exact hd c (List.mem_of_mem_drop hc)
        have hrd : rd ((deck l).take j ++ [x] ++ (deck l).drop (j + 1)).length 0 ((deck l).take j ++ [x] ++ (deck l).drop (j + 1)) = .at j := by
          rw [hcl, List.append_assoc]
          have := rd_bad (n := (l.length + 2) / 3) (x := x) (post := (deck l).drop (j + 1)) (pre := (deck l).take j) (i := 0) (fun q c hq => by
            have hq2 : q < j := by
              have := (List.getElem?_eq_some_iff.mp hq).1
              simp at this; omega
            rw [List.getElem?_take_of_lt hq2, getElem_card (by omega)] at hq
            cases hq
            rw [Nat.zero_add]
            exact ⟨_, readC_card hs (by omega)⟩) (by rw [show 0 + ((deck l).take j).length = j by simp; omega]; exact hx3)
          rw [show 0 + ((deck l).take j).length = j by simp; omega] at this
          simpa using this
        refine w_callP rfl rfl (sp_text_of_deck (by omega) hd2 ?_)
        rw [hrd]
        intro ρ
        refine ⟨_, hw_card j, ?_⟩
        walk_at "m"
        rw [decide_eq_true rfl]
        walk_at "m"
        refine w_callP rfl rfl (sp_is_punched (by omega) hd2 (fun c hc => okL_sign (hd2 c hc).2) ?_)
        rw [hrd]
        intro ρ
        walk_at "m"
        exact ⟨h3, _, _, hh3, rfl⟩
      · walk_at "m"
        exact ⟨h2, _, _, hh2, rfl⟩
    · rintro ρ' ⟨h3, o5', o6', hh3, rfl⟩
      unfold strT
      walk_at "m"
      refine o_joinT ?_ ?_
      · rw [sum_map_const (n := 8) fun c hc => (hd c hc).1]; simp; omega
      walk_at "m"
      refine o_mulT ⟨by simp, by omega, by omega, by simp⟩ ?_
      walk_at "m"
      refine w_callO rfl rfl rfl (sp__law_any hh3 (by simp) (by simp) fun v h4 ρ' hh4 hv e => ⟨h4, e, ?_⟩)
      simp only [List.set]
      have hcl : ∀ c ∈ deck l, c.length ≤ 100000 := fun c hc => by have := (hd c hc).1; omega
      obtain ⟨hf, hb⟩ : FitT v ∧ deckB v = false := by
        simp only [List.mem_cons, List.not_mem_nil, or_false] at hv
        rcases hv with rfl | rfl | rfl | rfl | rfl | rfl
        · exact fit_no rfl
        · exact fit_no rfl
        · exact fit_add hcl (by intro z e; cases e; decide) (by rw [cardB_mk]; rfl)
        · exact fit_add hcl (by intro z e; cases e) rfl
        · exact fit_no rfl
        · constructor
          · intro ds e x hx
            cases e
            obtain ⟨l, hl, hx⟩ := List.mem_flatten.mp hx
            obtain ⟨_, rfl⟩ := List.mem_replicate.mp hl
            simp at hx
            subst hx
            intro z e; cases e; decide
          · unfold deckB
            have : ((List.replicate K4.toNat [(.str (mk [46, 46, 46, 46, 46, 46, 46, 46]) : D)]).flatten.length : Int) = 401 := by
              rw [List.length_flatten, List.map_replicate, List.sum_replicate_nat]; simp; omega
            simp only [this]
            rfl
      walk_at "m"
      refine w_callP rfl rfl (sp_text_of_deck_no hf hb fun _ => ?_)
      refine ⟨_, hw_deck, ?_⟩
      walk_at "m"
      refine w_callP rfl rfl (sp_is_punched_no hf hb fun _ => ?_)
      walk_at "m"
      refine o_mulS ⟨by omega, by omega, by rw [sizeLine_eq]; simp; omega⟩ ?_
      walk_at "m"
      refine w_callO rfl rfl rfl (sp__law_any hh4 (by simp) (by simp) fun v5 h5 ρ' hh5 hv5 e => ⟨h5, e, ?_⟩)
      simp only [List.set]
      have hstr : isStrD v5 = false ∨ ∃ l, v5 = .str (mk l) ∧ 20000 < l.length ∧ l.length ≤ 100000 := by
        simp only [List.mem_cons, List.not_mem_nil, or_false] at hv5
        rcases hv5 with rfl | rfl | rfl | rfl | rfl | rfl
        · exact .inl rfl
        · exact .inl rfl
        · exact .inl rfl
        · exact .inl rfl
        · exact .inl rfl
        · exact .inr ⟨_, rfl, by rw [flat_len]; omega, by rw [flat_len]; omega⟩
      walk_at "m"
      refine w_callP rfl rfl (sp_text_deck_no hstr fun _ => ?_)
      refine ⟨_, hw_text, ?_⟩
      walk_at "m"
      refine w_callO rfl rfl rfl (sp__law_draw hh5 (by decide) (by decide) fun v6 h6 ρ' hh6 hv0 hv1 e => ⟨h6, e, ?_⟩)
      simp only [List.set]
      walk_at "m"
      refine o_mulS ⟨by omega, by omega, by rw [sizeLine_eq]; simp; omega⟩ ?_
      walk_at "m"
      refine w_callP rfl rfl (sp_text_deck_many (by rw [flat_len]; omega) (by rw [flat_len]; omega) (fun c hc => by rw [flat_mem hc]; exact .inr (by omega)) fun _ => ?_)
      refine ⟨_, hw_many, ?_⟩
      walk_at "m"
      refine w_lift (a := .bool false) (by rw [← hN]; kernel_rfl) ?_
      walk_at "m"
      exact ⟨h6, _, _, _, _, _, _, hh6, rfl⟩
  · rintro ρ' ⟨h, o2, o3, o4, o5, o6, o7, hh, rfl⟩
    walk_at "m"
    refine o_mulS ⟨by omega, by omega, by rw [sizeLine_eq]; simp; omega⟩ ?_
    walk_at "m"
    refine w_callP rfl rfl (sp_text_deck (by rw [flat_len]; omega) (fun c hc => by rw [flat_mem hc]; exact .inr (by omega)) fun _ => ?_)
    unfold strT
    walk_at "m"
    rw [decide_eq_true (by rw [List.length_map]; unfold deck; rw [List.length_map, List.length_range, flat_len]; omega)]
theorem m_law_true (ns : List Int) (hn : ns.length ≤ 63) : ∃ ρ, m_law [.dict [(.none, .list (ns.map .int))]] = .ok (.bool true) ρ := by
  have h := m_law_ok ns hn
  cases e : m_law [.dict [(.none, .list (ns.map .int))]] with
  | ok d ρ => rw [e] at h; exact ⟨ρ, by rw [show d = .bool true from h]⟩
  | exc x ρ => rw [e] at h; exact h.elim
  | bad => rw [e] at h; exact h.elim
end E
end
section
set_option Elab.async false
set_option linter.all false
set_option maxRecDepth 100000
set_option maxHeartbeats 0
namespace E
open PySem PySem.Spec L2 Cr
def initOf (i : Nat) : Stmt := match top i with
  | .ClassDef _ _ _ b _ _ _ _ _ _ _ => b.getD 0 (.Pass ⟨0, 0, 0, 0⟩)
  | s => s
def df0 : He.DefD := ⟨("BadCard", some "__init__"), "__init__", "BadCard.__init__", defArgs (initOf 2), defBody (initOf 2), defScope (initOf 2), [], []⟩
def df1 : He.DefD := ⟨("BadText", some "__init__"), "__init__", "BadText.__init__", defArgs (initOf 3), defBody (initOf 3), defScope (initOf 3), [], []⟩
def df2 : He.DefD := ⟨("TooMany", some "__init__"), "__init__", "TooMany.__init__", defArgs (initOf 7), defBody (initOf 7), defScope (initOf 7), [], []⟩
def df3 : He.DefD := ⟨("is_integer", none), "is_integer", "is_integer", defArgs (top 13), defBody (top 13), defScope (top 13), [], []⟩
def df4 : He.DefD := ⟨("is_within", none), "is_within", "is_within", defArgs (top 14), defBody (top 14), defScope (top 14), [], []⟩
def df5 : He.DefD := ⟨("is_few", none), "is_few", "is_few", defArgs (top 15), defBody (top 15), defScope (top 15), [], []⟩
def df6 : He.DefD := ⟨("is_width", none), "is_width", "is_width", defArgs (top 16), defBody (top 16), defScope (top 16), [], []⟩
def df7 : He.DefD := ⟨("check_width", none), "check_width", "check_width", defArgs (top 17), defBody (top 17), defScope (top 17), [], []⟩
def df8 : He.DefD := ⟨("raw_is_card", none), "raw_is_card", "raw_is_card", defArgs (top 18), defBody (top 18), defScope (top 18), [], []⟩
def df9 : He.DefD := ⟨("raw_is_deck", none), "raw_is_deck", "raw_is_deck", defArgs (top 19), defBody (top 19), defScope (top 19), [], []⟩
def df10 : He.DefD := ⟨("is_deck", none), "is_deck", "is_deck", defArgs (top 20), defBody (top 20), defScope (top 20), [], []⟩
def df11 : He.DefD := ⟨("check_text", none), "check_text", "check_text", defArgs (top 23), defBody (top 23), defScope (top 23), [], []⟩
def df12 : He.DefD := ⟨("code_of", none), "code_of", "code_of", defArgs (top 32), defBody (top 32), defScope (top 32), [], []⟩
def df13 : He.DefD := ⟨("is_coded", none), "is_coded", "is_coded", defArgs (top 33), defBody (top 33), defScope (top 33), [], []⟩
def df14 : He.DefD := ⟨("raw_text_deck", none), "raw_text_deck", "raw_text_deck", defArgs (top 34), defBody (top 34), defScope (top 34), [], []⟩
def df15 : He.DefD := ⟨("text_deck", none), "text_deck", "text_deck", defArgs (top 35), defBody (top 35), defScope (top 35), [], []⟩
def df16 : He.DefD := ⟨("sign_of", none), "sign_of", "sign_of", defArgs (top 36), defBody (top 36), defScope (top 36), [], []⟩
def df17 : He.DefD := ⟨("share_of", none), "share_of", "share_of", defArgs (top 37), defBody (top 37), defScope (top 37), [], []⟩
def df18 : He.DefD := ⟨("raw_deck_text", none), "raw_deck_text", "raw_deck_text", defArgs (top 38), defBody (top 38), defScope (top 38), [], []⟩
def df19 : He.DefD := ⟨("text_of_deck", none), "text_of_deck", "text_of_deck", defArgs (top 39), defBody (top 39), defScope (top 39), [], []⟩
def df20 : He.DefD := ⟨("is_punched_text", none), "is_punched_text", "is_punched_text", defArgs (top 40), defBody (top 40), defScope (top 40), [], []⟩
def df21 : He.DefD := ⟨("_law_signs", none), "_law_signs", "_law_signs", defArgs (top 42), defBody (top 42), defScope (top 42), [], []⟩
def df22 : He.DefD := ⟨("_law_hand", none), "_law_hand", "_law_hand", defArgs (top 43), defBody (top 43), defScope (top 43), [], []⟩
def df23 : He.DefD := ⟨("_law_draw", none), "_law_draw", "_law_draw", defArgs (top 44), defBody (top 44), defScope (top 44), [], []⟩
def df24 : He.DefD := ⟨("_law_any", none), "_law_any", "_law_any", defArgs (top 45), defBody (top 45), defScope (top 45), [], []⟩
def df25 : He.DefD := ⟨("_law_code", none), "_law_code", "_law_code", defArgs (top 46), defBody (top 46), defScope (top 46), [], []⟩
def df26 : He.DefD := ⟨("_law_punched", none), "_law_punched", "_law_punched", defArgs (top 47), defBody (top 47), defScope (top 47), [], []⟩
def df27 : He.DefD := ⟨("_law_text", none), "_law_text", "_law_text", defArgs (top 48), defBody (top 48), defScope (top 48), [], []⟩
def df28 : He.DefD := ⟨("_law_word", none), "_law_word", "_law_word", defArgs (top 49), defBody (top 49), defScope (top 49), [], []⟩
def df29 : He.DefD := ⟨("_law_bent", none), "_law_bent", "_law_bent", defArgs (top 50), defBody (top 50), defScope (top 50), [], []⟩
def df30 : He.DefD := ⟨("law", none), "law", "law", defArgs (top 51), defBody (top 51), defScope (top 51), [], []⟩
def fnL : List He.DefD := [df0, df1, df2, df3, df4, df5, df6, df7, df8, df9, df10, df11, df12, df13, df14, df15, df16, df17, df18, df19] ++ [df20, df21, df22, df23, df24, df25, df26, df27, df28, df29, df30]
def faL : List He.Fa := [.free "len", .free "int", .free "abs", .free "ord", .free "str", .free "tuple", .free "list", .free "all", .free "any", .free "sum", .free "max", .free "min", .free "isinstance", .free "enumerate", .free "zip", .free "range", .free "bool", .free "dict", .exc "CardError", .glo "CardError"] ++ [.exc "NoDeck", .glo "NoDeck", .exc "NoText", .glo "NoText", .exc "NoWidth", .glo "NoWidth", .str "FIGURES" "0123456789", .str "SIGNS" "0123456789x.", .int "MOST_WIDTH" (8), .int "MOST_CARDS" (400), .int "MOST_TEXT" (20000), .int "BLANK" (32), .str "FIRST_SIGNS" " !\"#$%&'()*+,-./0123456789:;<=>?@", .str "LAST_SIGNS" "ABCDEFGHIJKLMNOPQRSTUVWXYZ[\\]^_`abcdefghijklmnopqrstuvwxyz{|}~", .int "FEED" (95), .int "SHARE" (3), .str "EMPTY" "..", .int "PLACES" (2), .glo "is_integer", .glo "is_within"] ++ [.glo "is_few", .glo "is_width", .glo "check_width", .glo "raw_is_card", .glo "raw_is_deck", .glo "is_deck", .glo "check_text", .glo "code_of", .glo "is_coded", .glo "raw_text_deck", .glo "text_deck", .glo "sign_of", .glo "share_of", .glo "raw_deck_text", .glo "text_of_deck", .glo "is_punched_text", .glo "_law_signs", .glo "_law_hand", .glo "_law_draw", .glo "_law_any"] ++ [.glo "_law_code", .glo "_law_punched", .glo "_law_text", .glo "_law_word", .glo "_law_bent", .glo "law"]
def tfL : List He.Defn := [("law", none)]
def exL (K : PySem.W.Frag) : Bool := [xokB K X0, tkB K tfL, ex1B K "BadCard" "card", ex1B K "BadText" "place", ex1B K "TooMany" "most"].all id
abbrev R : PySem.W.OpenRow := PySem.W.OpenLaw.row PySem.Challenge.rw_cardroom_k76_whole_texts_on_cards
def names : List PySem.Str := (["CardError", "BadCard", "BadText", "NoDeck", "NoText", "NoWidth", "TooMany", "FIGURES", "SIGNS", "MOST_WIDTH", "MOST_CARDS", "is_integer", "is_within", "is_few", "is_width", "check_width", "raw_is_card", "raw_is_deck", "is_deck", "MOST_TEXT", "check_text", "BLANK", "FIRST_SIGNS", "LAST_SIGNS", "FEED", "SHARE", "EMPTY", "PLACES", "code_of", "is_coded"] : List PySem.Str) ++ (["raw_text_deck", "text_deck", "sign_of", "share_of", "raw_deck_text", "text_of_deck", "is_punched_text", "_law_signs", "_law_hand", "_law_draw", "_law_any", "_law_code", "_law_punched", "_law_text", "_law_word", "_law_bent"] : List PySem.Str)
abbrev hk : PySem.W.Hook := He.hookX 6 faL fnL [] tfL exL
def ob (s : PySem.W.SharedT) : He.AlX := He.obsX 6 faL fnL [] tfL exL (HandSHeadRun.getT s)
theorem ob_eq (s : PySem.W.SharedT) : ob s = hk.obs s.abs := He.obsX_eq (HandSHeadRun.getT_eq s)
theorem run (w : World) : HandSHeadRun.RunEq R (PySem.W.view R.prog [51]) hk ob 20000 names w := by
  intro os
  kernel_rfl
section
variable {P : Program} {w : World} {K : PySem.W.Frag} {mg : Str → Option Value} {h base : Heap}
open PySem.W (Frag)
theorem sc_BadCard : FnScope (["self", "card"] : List Str) (["self", "card"] : List Str) (defScope (initOf 2)) := ⟨rfl, rfl, rfl, by decide +kernel, rfl, by decide +kernel, by decide +kernel⟩
theorem sc_BadText : FnScope (["self", "place"] : List Str) (["self", "place"] : List Str) (defScope (initOf 3)) := ⟨rfl, rfl, rfl, by decide +kernel, rfl, by decide +kernel, by decide +kernel⟩
theorem sc_TooMany : FnScope (["self", "most"] : List Str) (["self", "most"] : List Str) (defScope (initOf 7)) := ⟨rfl, rfl, rfl, by decide +kernel, rfl, by decide +kernel, by decide +kernel⟩
theorem fct (c : He.SaysX faL fnL [] tfL exL w h K) (i : Nat) {f : He.Fa} (e : faL[i]? = some f := by rfl) : f.ok K = true := c.t.d.fact i e
theorem exf (c : He.SaysX faL fnL [] tfL exL w h K) (i : Nat) {b : Bool} (e : [xokB K X0, tkB K tfL, ex1B K "BadCard" "card", ex1B K "BadText" "place", ex1B K "TooMany" "most"][i]? = some b := by rfl) : b = true := List.all_eq_true.mp (show [xokB K X0, tkB K tfL, ex1B K "BadCard" "card", ex1B K "BadText" "place", ex1B K "TooMany" "most"].all id = true from c.more) b (List.mem_of_getElem? e)
theorem free_all (X : K.In h) (N : h.Ns mainGlobals mg) (c : He.SaysX faL fnL [] tfL exL w h K) : ∀ x ∈ bltL, mg x = none := by
  refine all2 (He.free_ok X N (fct c 0)) (all2 (He.free_ok X N (fct c 1)) (all2 (He.free_ok X N (fct c 2)) (all2 (He.free_ok X N (fct c 3)) (all2 (He.free_ok X N (fct c 4)) (all2 (He.free_ok X N (fct c 5)) (all2 (He.free_ok X N (fct c 6)) (all2 (He.free_ok X N (fct c 7)) (all2 (He.free_ok X N (fct c 8)) (all2 (He.free_ok X N (fct c 9)) (all2 (He.free_ok X N (fct c 10)) (all2 (He.free_ok X N (fct c 11)) (all2 (He.free_ok X N (fct c 12)) (all2 (He.free_ok X N (fct c 13)) (all2 (He.free_ok X N (fct c 14)) (all2 (He.free_ok X N (fct c 15)) (all2 (He.free_ok X N (fct c 16)) (all1 (He.free_ok X N (fct c 17)))))))))))))))))))
theorem gok_0 (X : K.In h) (N : h.Ns mainGlobals mg) (c : He.SaysX faL fnL [] tfL exL w h K) : GOk P w K mg base G0 := by
  obtain ⟨fd_TooMany, F_TooMany⟩ := c.t.d.def_ 2 (d := df2) rfl
  obtain ⟨fd_BadText, F_BadText⟩ := c.t.d.def_ 1 (d := df1) rfl
  obtain ⟨fd_BadCard, F_BadCard⟩ := c.t.d.def_ 0 (d := df0) rfl
  exact gok_ex0 X N (gok_ex1 X N (gok_ex1 X N (gok_ex0 X N (gok_ex0 X N (gok_ex0 X N (gok_ex1 X N (gok_str X N (gok_str X N (gok_int X N (gok_int X N (gok_int X N (gok_int X N (gok_str X N (gok_str X N (gok_int X N (gok_int X N (gok_str X N (gok_int X N (GOk.nil (free_all X N c)) (fct c 37)) (fct c 36)) (fct c 35)) (fct c 34)) (fct c 33)) (fct c 32)) (fct c 31)) (fct c 30)) (fct c 29)) (fct c 28)) (fct c 27)) (fct c 26)) (exf c 4) F_TooMany sc_TooMany (by decide +kernel) (by decide +kernel) (by decide +kernel) (by decide +kernel) (FunD.bindsN F_TooMany fun _ _ _ _ _ _ us hl => match us, hl with | [_, _], _ => rfl)) (fct c 25) (fct c 24)) (fct c 23) (fct c 22)) (fct c 21) (fct c 20)) (exf c 3) F_BadText sc_BadText (by decide +kernel) (by decide +kernel) (by decide +kernel) (by decide +kernel) (FunD.bindsN F_BadText fun _ _ _ _ _ _ us hl => match us, hl with | [_, _], _ => rfl)) (exf c 2) F_BadCard sc_BadCard (by decide +kernel) (by decide +kernel) (by decide +kernel) (by decide +kernel) (FunD.bindsN F_BadCard fun _ _ _ _ _ _ us hl => match us, hl with | [_, _], _ => rfl)) (fct c 19) (fct c 18)
theorem xok (X : K.In h) (N : h.Ns mainGlobals mg) (c : He.SaysX faL fnL [] tfL exL w h K) : XOk K mg X0 := xokB_ok X N (exf c 0)
theorem sc_is_integer : FnScope (["thing"] : List Str) (["thing"] : List Str) (defScope (top 13)) := ⟨rfl, rfl, rfl, by decide +kernel, rfl, by decide +kernel, by decide +kernel⟩
theorem gok_is_integer (X : K.In h) (N : h.Ns mainGlobals mg) (c : He.SaysX faL fnL [] tfL exL w h K) : GOk P w K mg base G_is_integer := by
  obtain ⟨fd, F⟩ := c.t.d.def_ 3 (d := df3) rfl
  exact gok_fn X N (gok_0 X N c) (fct c 38) F (FunD.bindsN F (fun _ _ _ _ _ _ us hl => match us, hl with | [_], _ => rfl)) (all1 (def_sound 200 F sc_is_integer (gok_0 X N c) (xok X N c) (by decide +kernel) false nofun))
theorem sc_is_within : FnScope (["thing", "low", "high"] : List Str) (["thing", "low", "high"] : List Str) (defScope (top 14)) := ⟨rfl, rfl, rfl, by decide +kernel, rfl, by decide +kernel, by decide +kernel⟩
theorem gok_is_within (X : K.In h) (N : h.Ns mainGlobals mg) (c : He.SaysX faL fnL [] tfL exL w h K) : GOk P w K mg base G_is_within := by
  obtain ⟨fd, F⟩ := c.t.d.def_ 4 (d := df4) rfl
  exact gok_fn X N (gok_is_integer X N c) (fct c 39) F (FunD.bindsN F (fun _ _ _ _ _ _ us hl => match us, hl with | [_, _, _], _ => rfl)) (all1 (def_sound 200 F sc_is_within (gok_is_integer X N c) (xok X N c) (by decide +kernel) false nofun))
theorem sc_is_few : FnScope (["thing", "most"] : List Str) (["thing", "most"] : List Str) (defScope (top 15)) := ⟨rfl, rfl, rfl, by decide +kernel, rfl, by decide +kernel, by decide +kernel⟩
theorem gok_is_few (X : K.In h) (N : h.Ns mainGlobals mg) (c : He.SaysX faL fnL [] tfL exL w h K) : GOk P w K mg base G_is_few := by
  obtain ⟨fd, F⟩ := c.t.d.def_ 5 (d := df5) rfl
  exact gok_fn X N (gok_is_within X N c) (fct c 40) F (FunD.bindsN F (fun _ _ _ _ _ _ us hl => match us, hl with | [_, _], _ => rfl)) (all1 (def_sound 200 F sc_is_few (gok_is_within X N c) (xok X N c) (by decide +kernel) false nofun))
theorem sc_is_width : FnScope (["thing"] : List Str) (["thing"] : List Str) (defScope (top 16)) := ⟨rfl, rfl, rfl, by decide +kernel, rfl, by decide +kernel, by decide +kernel⟩
theorem gok_is_width (X : K.In h) (N : h.Ns mainGlobals mg) (c : He.SaysX faL fnL [] tfL exL w h K) : GOk P w K mg base G_is_width := by
  obtain ⟨fd, F⟩ := c.t.d.def_ 6 (d := df6) rfl
  exact gok_fn X N (gok_is_few X N c) (fct c 41) F (FunD.bindsN F (fun _ _ _ _ _ _ us hl => match us, hl with | [_], _ => rfl)) (all1 (def_sound 200 F sc_is_width (gok_is_few X N c) (xok X N c) (by decide +kernel) false nofun))
theorem sc_check_width : FnScope (["width"] : List Str) (["width"] : List Str) (defScope (top 17)) := ⟨rfl, rfl, rfl, by decide +kernel, rfl, by decide +kernel, by decide +kernel⟩
theorem gok_check_width (X : K.In h) (N : h.Ns mainGlobals mg) (c : He.SaysX faL fnL [] tfL exL w h K) : GOk P w K mg base G_check_width := by
  obtain ⟨fd, F⟩ := c.t.d.def_ 7 (d := df7) rfl
  exact gok_fn X N (gok_is_width X N c) (fct c 42) F (FunD.bindsN F (fun _ _ _ _ _ _ us hl => match us, hl with | [_], _ => rfl)) (all1 (def_sound 200 F sc_check_width (gok_is_width X N c) (xok X N c) (by decide +kernel) false nofun))
theorem sc_raw_is_card : FnScope (["width", "thing", "sign"] : List Str) (["width", "thing"] : List Str) (defScope (top 18)) := ⟨rfl, rfl, rfl, by decide +kernel, rfl, by decide +kernel, by decide +kernel⟩
theorem gok_raw_is_card (X : K.In h) (N : h.Ns mainGlobals mg) (c : He.SaysX faL fnL [] tfL exL w h K) : GOk P w K mg base G_raw_is_card := by
  obtain ⟨fd, F⟩ := c.t.d.def_ 8 (d := df8) rfl
  exact gok_fn X N (gok_check_width X N c) (fct c 43) F (FunD.bindsN F (fun _ _ _ _ _ _ us hl => match us, hl with | [_, _], _ => rfl)) (all1 (def_sound 200 F sc_raw_is_card (gok_check_width X N c) (xok X N c) (by decide +kernel) false nofun))
theorem sc_raw_is_deck : FnScope (["width", "thing", "card"] : List Str) (["width", "thing"] : List Str) (defScope (top 19)) := ⟨rfl, rfl, rfl, by decide +kernel, rfl, by decide +kernel, by decide +kernel⟩
theorem gok_raw_is_deck (X : K.In h) (N : h.Ns mainGlobals mg) (c : He.SaysX faL fnL [] tfL exL w h K) : GOk P w K mg base G_raw_is_deck := by
  obtain ⟨fd, F⟩ := c.t.d.def_ 9 (d := df9) rfl
  exact gok_fn X N (gok_raw_is_card X N c) (fct c 44) F (FunD.bindsN F (fun _ _ _ _ _ _ us hl => match us, hl with | [_, _], _ => rfl)) (all1 (def_sound 200 F sc_raw_is_deck (gok_raw_is_card X N c) (xok X N c) (by decide +kernel) false nofun))
theorem sc_is_deck : FnScope (["width", "thing"] : List Str) (["width", "thing"] : List Str) (defScope (top 20)) := ⟨rfl, rfl, rfl, by decide +kernel, rfl, by decide +kernel, by decide +kernel⟩
theorem gok_is_deck (X : K.In h) (N : h.Ns mainGlobals mg) (c : He.SaysX faL fnL [] tfL exL w h K) : GOk P w K mg base G_is_deck := by
  obtain ⟨fd, F⟩ := c.t.d.def_ 10 (d := df10) rfl
  exact gok_fn X N (gok_raw_is_deck X N c) (fct c 45) F (FunD.bindsN F (fun _ _ _ _ _ _ us hl => match us, hl with | [_, _], _ => rfl)) (all1 (def_sound 200 F sc_is_deck (gok_raw_is_deck X N c) (xok X N c) (by decide +kernel) false nofun))
theorem sc_check_text : FnScope (["text"] : List Str) (["text"] : List Str) (defScope (top 23)) := ⟨rfl, rfl, rfl, by decide +kernel, rfl, by decide +kernel, by decide +kernel⟩
theorem gok_check_text (X : K.In h) (N : h.Ns mainGlobals mg) (c : He.SaysX faL fnL [] tfL exL w h K) : GOk P w K mg base G_check_text := by
  obtain ⟨fd, F⟩ := c.t.d.def_ 11 (d := df11) rfl
  exact gok_fn X N (gok_is_deck X N c) (fct c 46) F (FunD.bindsN F (fun _ _ _ _ _ _ us hl => match us, hl with | [_], _ => rfl)) (all1 (def_sound 200 F sc_check_text (gok_is_deck X N c) (xok X N c) (by decide +kernel) false nofun))
theorem sc_code_of : FnScope (["sign", "number"] : List Str) (["sign"] : List Str) (defScope (top 32)) := ⟨rfl, rfl, rfl, by decide +kernel, rfl, by decide +kernel, by decide +kernel⟩
theorem gok_code_of (X : K.In h) (N : h.Ns mainGlobals mg) (c : He.SaysX faL fnL [] tfL exL w h K) : GOk P w K mg base G_code_of := by
  obtain ⟨fd, F⟩ := c.t.d.def_ 12 (d := df12) rfl
  exact gok_fn X N (gok_check_text X N c) (fct c 47) F (FunD.bindsN F (fun _ _ _ _ _ _ us hl => match us, hl with | [_], _ => rfl)) (all1 (def_sound 200 F sc_code_of (gok_check_text X N c) (xok X N c) (by decide +kernel) false nofun))
theorem sc_is_coded : FnScope (["sign"] : List Str) (["sign"] : List Str) (defScope (top 33)) := ⟨rfl, rfl, rfl, by decide +kernel, rfl, by decide +kernel, by decide +kernel⟩
theorem gok_is_coded (X : K.In h) (N : h.Ns mainGlobals mg) (c : He.SaysX faL fnL [] tfL exL w h K) : GOk P w K mg base G_is_coded := by
  obtain ⟨fd, F⟩ := c.t.d.def_ 13 (d := df13) rfl
  exact gok_fn X N (gok_code_of X N c) (fct c 48) F (FunD.bindsN F (fun _ _ _ _ _ _ us hl => match us, hl with | [_], _ => rfl)) (all1 (def_sound 200 F sc_is_coded (gok_code_of X N c) (xok X N c) (by decide +kernel) false nofun))
theorem sc_raw_text_deck : FnScope (["text", "found", "at", "signs", "number", "head", "sign"] : List Str) (["text"] : List Str) (defScope (top 34)) := ⟨rfl, rfl, rfl, by decide +kernel, rfl, by decide +kernel, by decide +kernel⟩
theorem gok_raw_text_deck (X : K.In h) (N : h.Ns mainGlobals mg) (c : He.SaysX faL fnL [] tfL exL w h K) : GOk P w K mg base G_raw_text_deck := by
  obtain ⟨fd, F⟩ := c.t.d.def_ 14 (d := df14) rfl
  exact gok_fn X N (gok_is_coded X N c) (fct c 49) F (FunD.bindsN F (fun _ _ _ _ _ _ us hl => match us, hl with | [_], _ => rfl)) (all1 (def_sound 200 F sc_raw_text_deck (gok_is_coded X N c) (xok X N c) (by decide +kernel) false nofun))
theorem sc_text_deck : FnScope (["text", "sign", "at"] : List Str) (["text"] : List Str) (defScope (top 35)) := ⟨rfl, rfl, rfl, by decide +kernel, rfl, by decide +kernel, by decide +kernel⟩
theorem gok_text_deck (X : K.In h) (N : h.Ns mainGlobals mg) (c : He.SaysX faL fnL [] tfL exL w h K) : GOk P w K mg base G_text_deck := by
  obtain ⟨fd, F⟩ := c.t.d.def_ 15 (d := df15) rfl
  exact gok_fn X N (gok_raw_text_deck X N c) (fct c 50) F (FunD.bindsN F (fun _ _ _ _ _ _ us hl => match us, hl with | [_], _ => rfl)) (all1 (def_sound 200 F sc_text_deck (gok_raw_text_deck X N c) (xok X N c) (by decide +kernel) false nofun))
theorem sc_sign_of : FnScope (["figures", "number", "sign"] : List Str) (["figures"] : List Str) (defScope (top 36)) := ⟨rfl, rfl, rfl, by decide +kernel, rfl, by decide +kernel, by decide +kernel⟩
theorem gok_sign_of (X : K.In h) (N : h.Ns mainGlobals mg) (c : He.SaysX faL fnL [] tfL exL w h K) : GOk P w K mg base G_sign_of := by
  obtain ⟨fd, F⟩ := c.t.d.def_ 16 (d := df16) rfl
  exact gok_fn X N (gok_text_deck X N c) (fct c 51) F (FunD.bindsN F (fun _ _ _ _ _ _ us hl => match us, hl with | [_], _ => rfl)) (all1 (def_sound 200 F sc_sign_of (gok_text_deck X N c) (xok X N c) (by decide +kernel) false nofun))
theorem sc_share_of : FnScope (["card", "found", "pairs", "pair", "sign", "at"] : List Str) (["card"] : List Str) (defScope (top 37)) := ⟨rfl, rfl, rfl, by decide +kernel, rfl, by decide +kernel, by decide +kernel⟩
theorem gok_share_of (X : K.In h) (N : h.Ns mainGlobals mg) (c : He.SaysX faL fnL [] tfL exL w h K) : GOk P w K mg base G_share_of := by
  obtain ⟨fd, F⟩ := c.t.d.def_ 17 (d := df17) rfl
  exact gok_fn X N (gok_sign_of X N c) (fct c 52) F (FunD.bindsN F (fun _ _ _ _ _ _ us hl => match us, hl with | [_], _ => rfl)) (all1 (def_sound 200 F sc_share_of (gok_sign_of X N c) (xok X N c) (by decide +kernel) false nofun))
theorem sc_raw_deck_text : FnScope (["deck", "found", "at", "card", "number", "share"] : List Str) (["deck"] : List Str) (defScope (top 38)) := ⟨rfl, rfl, rfl, by decide +kernel, rfl, by decide +kernel, by decide +kernel⟩
theorem gok_raw_deck_text (X : K.In h) (N : h.Ns mainGlobals mg) (c : He.SaysX faL fnL [] tfL exL w h K) : GOk P w K mg base G_raw_deck_text := by
  obtain ⟨fd, F⟩ := c.t.d.def_ 18 (d := df18) rfl
  exact gok_fn X N (gok_share_of X N c) (fct c 53) F (FunD.bindsN F (fun _ _ _ _ _ _ us hl => match us, hl with | [_], _ => rfl)) (all1 (def_sound 200 F sc_raw_deck_text (gok_share_of X N c) (xok X N c) (by decide +kernel) false nofun))
theorem sc_text_of_deck : FnScope (["deck"] : List Str) (["deck"] : List Str) (defScope (top 39)) := ⟨rfl, rfl, rfl, by decide +kernel, rfl, by decide +kernel, by decide +kernel⟩
theorem gok_text_of_deck (X : K.In h) (N : h.Ns mainGlobals mg) (c : He.SaysX faL fnL [] tfL exL w h K) : GOk P w K mg base G_text_of_deck := by
  obtain ⟨fd, F⟩ := c.t.d.def_ 19 (d := df19) rfl
  exact gok_fn X N (gok_raw_deck_text X N c) (fct c 54) F (FunD.bindsN F (fun _ _ _ _ _ _ us hl => match us, hl with | [_], _ => rfl)) (all1 (def_sound 200 F sc_text_of_deck (gok_raw_deck_text X N c) (xok X N c) (by decide +kernel) false nofun))
theorem sc_is_punched_text : FnScope (["thing"] : List Str) (["thing"] : List Str) (defScope (top 40)) := ⟨rfl, rfl, rfl, by decide +kernel, rfl, by decide +kernel, by decide +kernel⟩
theorem gok_is_punched_text (X : K.In h) (N : h.Ns mainGlobals mg) (c : He.SaysX faL fnL [] tfL exL w h K) : GOk P w K mg base G_is_punched_text := by
  obtain ⟨fd, F⟩ := c.t.d.def_ 20 (d := df20) rfl
  exact gok_fn X N (gok_text_of_deck X N c) (fct c 55) F (FunD.bindsN F (fun _ _ _ _ _ _ us hl => match us, hl with | [_], _ => rfl)) (all1 (def_sound 200 F sc_is_punched_text (gok_text_of_deck X N c) (xok X N c) (by decide +kernel) false nofun))
theorem sc__law_signs : FnScope (["first"] : List Str) ([] : List Str) (defScope (top 42)) := ⟨rfl, rfl, rfl, by decide +kernel, rfl, by decide +kernel, by decide +kernel⟩
theorem gok__law_signs (X : K.In h) (N : h.Ns mainGlobals mg) (c : He.SaysX faL fnL [] tfL exL w h K) : GOk P w K mg base G__law_signs := by
  obtain ⟨fd, F⟩ := c.t.d.def_ 21 (d := df21) rfl
  exact gok_fn X N (gok_is_punched_text X N c) (fct c 56) F (FunD.bindsN F (fun _ _ _ _ _ _ us hl => match us, hl with | [], _ => rfl)) (all1 (def_sound 200 F sc__law_signs (gok_is_punched_text X N c) (xok X N c) (by decide +kernel) false nofun))
theorem sc__law_hand : FnScope (["script", "cells", "cell"] : List Str) (["script"] : List Str) (defScope (top 43)) := ⟨rfl, rfl, rfl, by decide +kernel, rfl, by decide +kernel, by decide +kernel⟩
theorem gok__law_hand (X : K.In h) (N : h.Ns mainGlobals mg) (c : He.SaysX faL fnL [] tfL exL w h K) : GOk P w K mg base G__law_hand := by
  obtain ⟨fd, F⟩ := c.t.d.def_ 22 (d := df22) rfl
  exact gok_fn X N (gok__law_signs X N c) (fct c 57) F (FunD.bindsN F (fun _ _ _ _ _ _ us hl => match us, hl with | [_], _ => rfl)) (all1 (def_sound 200 F sc__law_hand (gok__law_signs X N c) (xok X N c) (by decide +kernel) false nofun))
theorem sc__law_draw : FnScope (["hand", "many", "cell", "digit", "number"] : List Str) (["hand", "many"] : List Str) (defScope (top 44)) := ⟨rfl, rfl, rfl, by decide +kernel, rfl, by decide +kernel, by decide +kernel⟩
theorem gok__law_draw (X : K.In h) (N : h.Ns mainGlobals mg) (c : He.SaysX faL fnL [] tfL exL w h K) : GOk P w K mg base G__law_draw := by
  obtain ⟨fd, F⟩ := c.t.d.def_ 23 (d := df23) rfl
  exact gok_fn X N (gok__law_hand X N c) (fct c 58) F (FunD.bindsN F (fun _ _ _ _ _ _ us hl => match us, hl with | [_, _], _ => rfl)) (all1 (def_sound 200 F sc__law_draw (gok__law_hand X N c) (xok X N c) (by decide +kernel) false nofun))
theorem sc__law_any : FnScope (["hand", "some"] : List Str) (["hand", "some"] : List Str) (defScope (top 45)) := ⟨rfl, rfl, rfl, by decide +kernel, rfl, by decide +kernel, by decide +kernel⟩
theorem gok__law_any (X : K.In h) (N : h.Ns mainGlobals mg) (c : He.SaysX faL fnL [] tfL exL w h K) : GOk P w K mg base G__law_any := by
  obtain ⟨fd, F⟩ := c.t.d.def_ 24 (d := df24) rfl
  exact gok_fn X N (gok__law_draw X N c) (fct c 59) F (FunD.bindsN F (fun _ _ _ _ _ _ us hl => match us, hl with | [_, _], _ => rfl)) (all2 (def_sound 200 F sc__law_any (gok__law_draw X N c) (xok X N c) (by decide +kernel) false nofun) (all1 (def_sound 200 F sc__law_any (gok__law_draw X N c) (xok X N c) (by decide +kernel) false nofun)))
theorem sc__law_code : FnScope (["sign", "number"] : List Str) (["sign"] : List Str) (defScope (top 46)) := ⟨rfl, rfl, rfl, by decide +kernel, rfl, by decide +kernel, by decide +kernel⟩
theorem gok__law_code (X : K.In h) (N : h.Ns mainGlobals mg) (c : He.SaysX faL fnL [] tfL exL w h K) : GOk P w K mg base G__law_code := by
  obtain ⟨fd, F⟩ := c.t.d.def_ 25 (d := df25) rfl
  exact gok_fn X N (gok__law_any X N c) (fct c 60) F (FunD.bindsN F (fun _ _ _ _ _ _ us hl => match us, hl with | [_], _ => rfl)) (all1 (def_sound 200 F sc__law_code (gok__law_any X N c) (xok X N c) (by decide +kernel) false nofun))
theorem sc__law_punched : FnScope (["text", "found", "at", "share", "number", "head", "sign"] : List Str) (["text"] : List Str) (defScope (top 47)) := ⟨rfl, rfl, rfl, by decide +kernel, rfl, by decide +kernel, by decide +kernel⟩
theorem gok__law_punched (X : K.In h) (N : h.Ns mainGlobals mg) (c : He.SaysX faL fnL [] tfL exL w h K) : GOk P w K mg base G__law_punched := by
  obtain ⟨fd, F⟩ := c.t.d.def_ 26 (d := df26) rfl
  exact gok_fn X N (gok__law_code X N c) (fct c 61) F (FunD.bindsN F (fun _ _ _ _ _ _ us hl => match us, hl with | [_], _ => rfl)) (all1 (def_sound 200 F sc__law_punched (gok__law_code X N c) (xok X N c) (by decide +kernel) false nofun))
theorem sc__law_text : FnScope (["hand", "most", "found", "step", "number"] : List Str) (["hand", "most"] : List Str) (defScope (top 48)) := ⟨rfl, rfl, rfl, by decide +kernel, rfl, by decide +kernel, by decide +kernel⟩
theorem gok__law_text (X : K.In h) (N : h.Ns mainGlobals mg) (c : He.SaysX faL fnL [] tfL exL w h K) : GOk P w K mg base G__law_text := by
  obtain ⟨fd, F⟩ := c.t.d.def_ 27 (d := df27) rfl
  exact gok_fn X N (gok__law_punched X N c) (fct c 62) F (FunD.bindsN F (fun _ _ _ _ _ _ us hl => match us, hl with | [_, _], _ => rfl)) (all1 (def_sound 200 F sc__law_text (gok__law_punched X N c) (xok X N c) (by decide +kernel) false nofun))
theorem sc__law_word : FnScope (["call", "word", "e", "flags"] : List Str) (["call"] : List Str) (defScope (top 49)) := ⟨rfl, rfl, rfl, by decide +kernel, rfl, by decide +kernel, by decide +kernel⟩
theorem gok__law_word (X : K.In h) (N : h.Ns mainGlobals mg) (c : He.SaysX faL fnL [] tfL exL w h K) : GOk P w K mg base G__law_word := by
  obtain ⟨fd, F⟩ := c.t.d.def_ 28 (d := df28) rfl
  exact gok_lamw X N (gok__law_text X N c) (lamw_ok (fuel := 200) F (He.glo_ok X N (fct c 63)) (FunD.bindsN F (fun _ _ _ _ _ _ us hl => match us, hl with | [_], _ => rfl)) sc__law_word (.inl rfl) (by decide +kernel) (by decide +kernel) (j := 1) rfl (by decide) rfl (by decide +kernel) (gok__law_text X N c) (xok X N c) rfl (by decide +kernel))
theorem sc__law_bent : FnScope (["hand", "deck", "at", "card", "some"] : List Str) (["hand", "deck"] : List Str) (defScope (top 50)) := ⟨rfl, rfl, rfl, by decide +kernel, rfl, by decide +kernel, by decide +kernel⟩
theorem gok__law_bent (X : K.In h) (N : h.Ns mainGlobals mg) (c : He.SaysX faL fnL [] tfL exL w h K) : GOk P w K mg base G__law_bent := by
  obtain ⟨fd, F⟩ := c.t.d.def_ 29 (d := df29) rfl
  exact gok_fn X N (gok__law_word X N c) (fct c 64) F (FunD.bindsN F (fun _ _ _ _ _ _ us hl => match us, hl with | [_, _], _ => rfl)) (all1 (def_sound 200 F sc__law_bent (gok__law_word X N c) (xok X N c) (by decide +kernel) false nofun))
theorem sc_law : FnScope (["script", "hand", "turn", "text", "deck", "bent", "at", "off"] : List Str) (["script"] : List Str) (defScope (top 51)) := ⟨rfl, rfl, rfl, by decide +kernel, rfl, by decide +kernel, by decide +kernel⟩
theorem ok_law {fd : FuncData} (X : K.In h) (N : h.Ns mainGlobals mg) (c : He.SaysX faL fnL [] tfL exL w h K) (b : BaseT K mg base tfL) (F : FunD K "law" "law" (defArgs (top 51)) (defBody (top 51)) (defScope (top 51)) [] [] (He.ga K "law") fd) : FnOk P w K mg base (L2.CX P w) 7 (He.ga K "law") fd ["script"] (spOf K mg (fun i => ([] : List Nat).contains i) false m_law) := (def_sound 200 F sc_law (gok__law_bent X N c) (xok X N c) (by decide +kernel) true (fun _ => lam_at F (by decide +kernel) (by decide +kernel) b (exf c 1)))
end
open PySem PySem.W PySem.Calls PyProof.Rows
theorem holds_of (hm : ∀ ns : List Int, ns.length ≤ 63 → (∀ z ∈ ns, Builtin.Int.intBits z ≤ 1048576) → ∃ ρ, m_law [.dict [(.none, .list (ns.map .int))]] = .ok (.bool true) ρ) : PySem.Challenge.rw_cardroom_k76_whole_texts_on_cards.Holds := by
  w_on; o_law
  refine HandSHeadRun.head_any (r := OpenLaw.row PySem.Challenge.rw_cardroom_k76_whole_texts_on_cards) (q := view (OpenLaw.row PySem.Challenge.rw_cardroom_k76_whole_texts_on_cards).prog [51]) (H := hk) (ob := ob) (M := 20000) (loose := names) (d := HandSHeadRun.topDef (OpenLaw.row PySem.Challenge.rw_cardroom_k76_whole_texts_on_cards).prog 51) (kwd := []) ob_eq
    (by kernel_rfl) (fun s => by kernel_rfl) run (by kernel_rfl) (by kernel_rfl) (by kernel_rfl) (by rfl) (by first | assumption | decide +kernel) (by decide +kernel) ⟨rfl, rfl, rfl, rfl, rfl, by decide +kernel⟩ ?hw ?hc
  case hw => w_witness2
  case hc =>
    refine LamX.walk_ofTsE (l := PySem.Challenge.rw_cardroom_k76_whole_texts_on_cards) (n := 63) (k := 7) (x := "script") (CX := fun w => L2.CX (PySem.Challenge.rw_cardroom_k76_whole_texts_on_cards).prog w) rfl (by decide) (by kernel_rfl) ⟨rfl, by decide, by decide⟩ ?F ?G
    · intro w mg fa h Y G hmg0
      obtain ⟨K, KX, c⟩ := Y
      have hmg : mg ("law" : PySem.Str) = some (.ref fa) := by
        have e : (HandSHeadRun.topDef (OpenLaw.row PySem.Challenge.rw_cardroom_k76_whole_texts_on_cards).prog 51).name = ("law" : PySem.Str) := by kernel_rfl
        rw [← e]
        exact hmg0
      have e := hmg.symm.trans (He.glo_ok KX G (fct c 65))
      cases e
      obtain ⟨fd, F⟩ := c.t.d.def_ 30 (d := df30) rfl
      exact ⟨K, KX, law_at KX G c F (fun _ _ _ _ _ _ us hl => match us, hl with | [_], _ => rfl) (exf c 1) (fun base hb hN b => ok_law KX G c b F) hm⟩
    · intro w H s e s' z
      exact z_cx z
end E
end
set_option maxRecDepth 100000 in
set_option maxHeartbeats 0 in
theorem PySem.Challenge.cw_cardroom_k76_whole_texts_on_cards_holds : PySem.Challenge.rw_cardroom_k76_whole_texts_on_cards.Holds := by
  exact E.holds_of fun ns hn _ => E.m_law_true ns hn
