import PyProof.Rows.All
import Wide.All
import OpenK.AllK
import Wide.FinOn
import HandS.ForMost
import HandS.Wide
import HandS.Walk
import HandS.TupAny
import HandS.FStr
import HandS.IsInst
import HandS.Property
import HandS.OwnEq
import HandS.Flow
import HandS.DictEq
import HandS.DictComp
import HandS.Conv
import HandS.More
import HandS.Finally
import PySem.Challenge.RW_stretchprices_k86_whole_texts_of_prices
set_option Elab.async false
set_option linter.all false
set_option maxRecDepth 100000
set_option maxHeartbeats 2000000
/-! DL: values as pure data, an environment of slots, a deterministic reading of each construct -/
namespace DL
open PySem L2

/-! ### data -/
inductive D where
  | non | bl (b : Bool) | int (i : Int) | str (x : Str) | tup (l : List D) | lst (l : List D)
  | dK (l : List (Key × D)) | dT (l : List (List Key × D)) | ins (c : Nat) (fs : List (Str × D)) | scr (l : List Int)
/-- a thing that may change -/
inductive Cell where
  | lst (l : List D) | dK (l : List (Key × D)) | dT (l : List (List Key × D)) | ins (c : Nat) (fs : List (Str × D))
def Cell.toD : Cell → D
  | .lst l => .lst l | .dK l => .dK l | .dT l => .dT l | .ins c fs => .ins c fs
/-- a slot: data that stay, an own thing, a thing of the caller's -/
inductive SV where
  | imm (d : D) | own (c : Cell) | brw (j : Nat) (c : Cell)
abbrev Env := List (Option SV)
/-- what an expression gives: data that stay, what stands in a slot -/
inductive Val where
  | imm (d : D) | slot (i : Nat)
def SV.toD : SV → D
  | .imm d => d | .own c => c.toD | .brw _ c => c.toD
def SV.hot : SV → Prop
  | .imm _ => False | _ => True
/-- the data as they are now -/
def look (ρ : Env) (x : Val) (k : D → Prop) : Prop := match x with
  | .imm d => k d
  | .slot i => match ρ[i]? with
    | some (some s) => k s.toD
    | _ => False
/-- the data, which stay from now on -/
def frz (x : Val) (ρ : Env) (k : D → Env → Prop) : Prop := match x with
  | .imm d => k d ρ
  | .slot i => match ρ[i]? with
    | some (some (.imm d)) => k d ρ
    | some (some (.own c)) => k c.toD (ρ.set i (some (.imm c.toD)))
    | _ => False

structure Wd where
  K : PySem.W.Frag
  cls : Nat → Addr
  /-- no tuple stands written at the top -/
  nw : Bool

/-! ### how data lie in a heap -/
/-- a tuple that stands: tracked in F or written -/
def ST (W : Wd) (F : Hp) (a : Addr) (xs : List V) : Prop :=
  F a = some (.tup xs) ∨ (W.nw = false ∧ xs.length = 2 ∧ ∃ (o : Obj) (its : Array Value) (n : Nat), W.K.lookup a = some o ∧ o.cls = .type "tuple" ∧ o.data = .seq its n ∧ its.size ≤ sizeLine ∧ Vals xs its.toList)

mutual
inductive Rep (W : Wd) (F : Hp) : V → D → Prop
  | non : Rep W F .non .non
  | bl (b : Bool) : Rep W F (.bl b) (.bl b)
  | int (i : Int) : Rep W F (.int i) (.int i)
  | str (x : Str) : Rep W F (.str x) (.str x)
  | tup {a : Addr} {xs : List V} {ds : List D} : ST W F a xs → RepL W F xs ds → Rep W F (.ref a) (.tup ds)
  | lst {a : Addr} {xs : List V} {ds : List D} : F a = some (.lst xs) → RepL W F xs ds → Rep W F (.ref a) (.lst ds)
  | dK {a : Addr} {xs : List (Key × V)} {ds : List (Key × D)} : F a = some (.dK xs) → RepK W F xs ds → Rep W F (.ref a) (.dK ds)
  | dT {a : Addr} {xs : List (List Key × V)} {ds : List (List Key × D)} : F a = some (.dT xs) → RepT W F xs ds → Rep W F (.ref a) (.dT ds)
  | ins {a dx : Addr} {c : Nat} {xs : List (Str × V)} {ds : List (Str × D)} : F a = some (.ins (W.cls c) dx xs) → RepF W F xs ds → Rep W F (.ref a) (.ins c ds)
  | scr {a : Addr} {ns : List Int} : SqL W.K F a (ns.map V.int) → Rep W F (.ref a) (.scr ns)
inductive RepL (W : Wd) (F : Hp) : List V → List D → Prop
  | nil : RepL W F [] []
  | cons {v : V} {vs : List V} {d : D} {ds : List D} : Rep W F v d → RepL W F vs ds → RepL W F (v :: vs) (d :: ds)
inductive RepK (W : Wd) (F : Hp) : List (Key × V) → List (Key × D) → Prop
  | nil : RepK W F [] []
  | cons {k : Key} {v : V} {vs : List (Key × V)} {d : D} {ds : List (Key × D)} : Rep W F v d → RepK W F vs ds → RepK W F ((k, v) :: vs) ((k, d) :: ds)
inductive RepT (W : Wd) (F : Hp) : List (List Key × V) → List (List Key × D) → Prop
  | nil : RepT W F [] []
  | cons {k : List Key} {v : V} {vs : List (List Key × V)} {d : D} {ds : List (List Key × D)} : Rep W F v d → RepT W F vs ds → RepT W F ((k, v) :: vs) ((k, d) :: ds)
inductive RepF (W : Wd) (F : Hp) : List (Str × V) → List (Str × D) → Prop
  | nil : RepF W F [] []
  | cons {k : Str} {v : V} {vs : List (Str × V)} {d : D} {ds : List (Str × D)} : Rep W F v d → RepF W F vs ds → RepF W F ((k, v) :: vs) ((k, d) :: ds)
end

/-- all of F stands in F' as it stood -/
abbrev LeF (F F' : Hp) : Prop := ∀ a o, F a = some o → F' a = some o
theorem LeF.refl (F : Hp) : LeF F F := fun _ _ h => h
theorem LeF.trans {F F1 F2 : Hp} (a : LeF F F1) (b : LeF F1 F2) : LeF F F2 := fun x o h => b x o (a x o h)
theorem LeF.new {F : Hp} {p : Addr} {o : HO} (h : F p = none) : LeF F (upd F p o) := fun a u e => by
  rw [upd_ne (ne_of_none e h)]; exact e

variable {W : Wd} {F F' H H' : Hp}
theorem sql_mono {K} (e : LeF F F') {a xs} (h : SqL K F a xs) : SqL K F' a xs := h.imp (Or.imp (e _ _) fun ⟨o, h⟩ => ⟨o, e _ _ h⟩) id
theorem ST.mono (e : LeF F F') {a xs} (h : ST W F a xs) : ST W F' a xs := h.imp (e _ _) id
mutual
theorem Rep.mono (e : LeF F F') : ∀ {v d}, Rep W F v d → Rep W F' v d
  | _, _, .non => .non
  | _, _, .bl b => .bl b
  | _, _, .int i => .int i
  | _, _, .str x => .str x
  | _, _, .tup h r => .tup (h.mono e) (r.mono e)
  | _, _, .lst h r => .lst (e _ _ h) (r.mono e)
  | _, _, .dK h r => .dK (e _ _ h) (r.mono e)
  | _, _, .dT h r => .dT (e _ _ h) (r.mono e)
  | _, _, .ins h r => .ins (e _ _ h) (r.mono e)
  | _, _, .scr h => .scr (sql_mono e h)
theorem RepL.mono (e : LeF F F') : ∀ {v d}, RepL W F v d → RepL W F' v d
  | _, _, .nil => .nil
  | _, _, .cons h r => .cons (h.mono e) (r.mono e)
theorem RepK.mono (e : LeF F F') : ∀ {v d}, RepK W F v d → RepK W F' v d
  | _, _, .nil => .nil
  | _, _, .cons h r => .cons (h.mono e) (r.mono e)
theorem RepT.mono (e : LeF F F') : ∀ {v d}, RepT W F v d → RepT W F' v d
  | _, _, .nil => .nil
  | _, _, .cons h r => .cons (h.mono e) (r.mono e)
theorem RepF.mono (e : LeF F F') : ∀ {v d}, RepF W F v d → RepF W F' v d
  | _, _, .nil => .nil
  | _, _, .cons h r => .cons (h.mono e) (r.mono e)
end

/-- what F tells is so in H (a dict may be locked there) -/
def Lockable : HO → Prop
  | .dK _ => True | .dT _ => True | _ => False
def LeR (F H : Hp) : Prop := ∀ a u, F a = some u → H a = some u ∨ (Lockable u ∧ ∃ o, H a = some (.frz o u))

/-- the thing c at a, not of F -/
def CellOk (W : Wd) (F H : Hp) (a : Addr) : Cell → Prop
  | .lst ds => F a = none ∧ ∃ xs, H a = some (.lst xs) ∧ RepL W F xs ds
  | .dK ds => F a = none ∧ ∃ xs, H a = some (.dK xs) ∧ RepK W F xs ds
  | .dT ds => F a = none ∧ ∃ xs, H a = some (.dT xs) ∧ RepT W F xs ds
  | .ins c ds => F a = none ∧ ∃ dx xs, H a = some (.ins (W.cls c) dx xs) ∧ RepF W F xs ds
theorem CellOk.free {a c} (h : CellOk W F H a c) : F a = none := by cases c <;> exact h.1
theorem CellOk.there {a c} (h : CellOk W F H a c) : ∃ o, H a = some o := by
  cases c <;> obtain ⟨_, h⟩ := h
  · obtain ⟨_, h, _⟩ := h; exact ⟨_, h⟩
  · obtain ⟨_, h, _⟩ := h; exact ⟨_, h⟩
  · obtain ⟨_, h, _⟩ := h; exact ⟨_, h⟩
  · obtain ⟨_, _, h, _⟩ := h; exact ⟨_, h⟩
theorem CellOk.notTup {a c} (h : CellOk W F H a c) {xs : List V} (e : H a = some (.tup xs)) : False := by
  cases c <;> obtain ⟨_, h⟩ := h
  · obtain ⟨_, h, _⟩ := h; rw [e] at h; cases h
  · obtain ⟨_, h, _⟩ := h; rw [e] at h; cases h
  · obtain ⟨_, h, _⟩ := h; rw [e] at h; cases h
  · obtain ⟨_, _, h, _⟩ := h; rw [e] at h; cases h
theorem CellOk.stay {a c} (h : CellOk W F H a c) (e : LeF F F') (n : F' a = none) (k : ∀ o, H a = some o → H' a = some o) : CellOk W F' H' a c := by
  cases c with
  | lst ds => obtain ⟨_, xs, h, r⟩ := h; exact ⟨n, xs, k _ h, r.mono e⟩
  | dK ds => obtain ⟨_, xs, h, r⟩ := h; exact ⟨n, xs, k _ h, r.mono e⟩
  | dT ds => obtain ⟨_, xs, h, r⟩ := h; exact ⟨n, xs, k _ h, r.mono e⟩
  | ins c ds => obtain ⟨_, dx, xs, h, r⟩ := h; exact ⟨n, dx, xs, k _ h, r.mono e⟩

/-- how a slot's thing lies -/
def SR (W : Wd) (ba : Nat → Addr) (F H : Hp) (v : V) : SV → Prop
  | .imm d => Rep W F v d
  | .own c => ∃ a, v = .ref a ∧ CellOk W F H a c
  | .brw j c => v = .ref (ba j) ∧ CellOk W F H (ba j) c
/-- the addresses of the things that the slots own (or have borrowed) -/
def Own (ρ : Env) (σ : L2.St) (a : Addr) : Prop := ∃ (i : Nat) (s : SV), ρ[i]? = some (some s) ∧ s.hot ∧ σ[i]? = some (some (.ref a))

structure Ok (W : Wd) (ba : Nat → Addr) (F : Hp) (ρ : Env) (σ : L2.St) (H : Hp) : Prop where
  len : ρ.length = σ.length
  le : LeR F H
  slots : ∀ (i : Nat) (s : SV), ρ[i]? = some (some s) → ∃ v, σ[i]? = some (some v) ∧ SR W ba F H v s
  inj : ∀ (i j : Nat) (s s' : SV) (a : Addr), ρ[i]? = some (some s) → ρ[j]? = some (some s') → s.hot → s'.hot → σ[i]? = some (some (.ref a)) → σ[j]? = some (some (.ref a)) → i = j

/-- from (F, O, H) to (F', O', H') -/
structure Step (F : Hp) (O : Addr → Prop) (H : Hp) (F' : Hp) (O' : Addr → Prop) (H' : Hp) : Prop where
  f : LeF F F'
  h : ∀ a o, H a = some o → ¬ O a → H' a = some o
  nf : ∀ a o, F' a = some o → F a = none → H a = none ∨ O a ∨ (H a = some o ∧ ∃ xs, o = .tup xs)
  no : ∀ a, O' a → O a ∨ H a = none
theorem Step.refl (F : Hp) (O : Addr → Prop) (H : Hp) : Step F O H F O H := ⟨LeF.refl _, fun _ _ h _ => h, fun a o h n => (by rw [n] at h; cases h), fun _ h => .inl h⟩
theorem Step.trans {F F1 F2 H H1 H2 : Hp} {O O1 O2 : Addr → Prop} (s : Step F O H F1 O1 H1) (t : Step F1 O1 H1 F2 O2 H2) : Step F O H F2 O2 H2 := by
  have back : ∀ a, H1 a = none → H a = none ∨ O a := fun a n => by
    cases q : H a with
    | none => exact .inl rfl
    | some o =>
      refine .inr (Classical.byContradiction fun no => ?_)
      have := s.h a o q no
      rw [n] at this; cases this
  have ownb : ∀ a, O1 a → H a = none ∨ O a := fun a h => (s.no a h).elim .inr .inl
  refine ⟨s.f.trans t.f, fun a o h n => t.h a o (s.h a o h n) fun z => ?_, fun a o h n => ?_, fun a h => ?_⟩
  · rcases s.no a z with z | z
    · exact n z
    · rw [h] at z; cases z
  · cases q : F1 a with
    | none =>
      rcases t.nf a o h q with z | z | ⟨z, y⟩
      · exact (back a z).imp id .inl
      · exact (ownb a z).imp id .inl
      · cases q2 : H a with
        | none => exact .inl rfl
        | some o' =>
          refine .inr (Classical.byCases (fun w => .inl w) fun w => .inr ?_)
          have := s.h a o' q2 w
          rw [z] at this
          cases this
          exact ⟨rfl, y⟩
    | some o1 =>
      have e := t.f a o1 q
      rw [h] at e
      cases e
      exact s.nf a o q n
  · rcases t.no a h with z | z
    · exact (ownb a z).elim .inr .inl
    · exact (back a z).elim .inr .inl
/-- a weaker start of O -/
theorem Step.wk {F F1 H H1 : Hp} {O O' O1 : Addr → Prop} (s : Step F O H F1 O1 H1) (h : ∀ a, O a → O' a) (h2 : ∀ a, O1 a → O' a ∨ H a = none) : Step F O' H F1 O1 H1 :=
  ⟨s.f, fun a o e n => s.h a o e fun z => n (h a z), fun a o e n => (s.nf a o e n).imp id (Or.imp (h a) id), h2⟩

def VR (W : Wd) (F : Hp) (σ : L2.St) (v : V) : Val → Prop
  | .imm d => Rep W F v d
  | .slot i => σ[i]? = some (some v)
theorem VR.mono {σ : L2.St} {v : V} {x : Val} (h : VR W F σ v x) (e : LeF F F') : VR W F' σ v x := by
  cases x with
  | imm d => exact Rep.mono e h
  | slot i => exact h

/-! ### what an environment says of a state -/
variable {ba : Nat → Addr} {ρ ρ' : Env} {σ σ' : L2.St}
theorem SR.hotAddr {v : V} {s : SV} (h : SR W ba F H v s) (hs : s.hot) : ∃ a c, v = .ref a ∧ CellOk W F H a c ∧ s.toD = c.toD := by
  cases s with
  | imm d => exact hs.elim
  | own c => obtain ⟨a, e, h⟩ := h; exact ⟨a, c, e, h, rfl⟩
  | brw j c => obtain ⟨e, h⟩ := h; exact ⟨ba j, c, e, h, rfl⟩
theorem Ok.own_free (ok : Ok W ba F ρ σ H) {a : Addr} (h : Own ρ σ a) : F a = none ∧ ∃ o, H a = some o := by
  obtain ⟨i, s, h1, h2, h3⟩ := h
  obtain ⟨v, h4, h5⟩ := ok.slots i s h1
  obtain ⟨b, c, e, hc, _⟩ := h5.hotAddr h2
  rw [h3] at h4
  cases h4; cases e
  exact ⟨hc.free, hc.there⟩
/-- the state goes on where nothing that the slots own was touched -/
theorem Ok.after (ok : Ok W ba F ρ σ H) (le : LeR F' H') {O : Addr → Prop} (s : Step F (fun _ => False) H F' O H') : Ok W ba F' ρ σ H' := by
  refine ⟨ok.len, le, fun i sv hi => ?_, ok.inj⟩
  obtain ⟨v, h1, h2⟩ := ok.slots i sv hi
  have stay : ∀ {a c}, CellOk W F H a c → CellOk W F' H' a c := fun {a c} h => by
    refine h.stay s.f ?_ fun o e => s.h a o e fun z => z
    cases q : F' a with
    | none => rfl
    | some o =>
      obtain ⟨u, e⟩ := h.there
      rcases s.nf a o q h.free with z | z | ⟨z, xs, y⟩
      · rw [e] at z; cases z
      · exact z.elim
      · subst y; exact (h.notTup z).elim
  refine ⟨v, h1, ?_⟩
  cases sv with
  | imm d => exact Rep.mono s.f h2
  | own c => obtain ⟨a, e, h⟩ := h2; exact ⟨a, e, stay h⟩
  | brw j c => obtain ⟨e, h⟩ := h2; exact ⟨e, stay h⟩
theorem Step.more {O O' O1 : Addr → Prop} (s : Step F (fun _ => False) H F' O' H') (h : ∀ a, O1 a → O a ∨ H a = none) : Step F O H F' O1 H' :=
  ⟨s.f, fun a o e _ => s.h a o e fun z => z, fun a o e n => (s.nf a o e n).imp id (Or.imp False.elim id), h⟩
theorem Step.keep {O : Addr → Prop} (s : Step F (fun _ => False) H F' (fun _ => False) H') : Step F O H F' O H' := s.more fun _ h => .inl h

/-- to read what stands at v -/
def RH (W : Wd) (F H : Hp) (v : V) : D → Prop
  | .lst ds => ∃ a xs, v = .ref a ∧ H a = some (.lst xs) ∧ RepL W F xs ds
  | .tup ds => ∃ a xs, v = .ref a ∧ ST W F a xs ∧ SqT W.K H a xs ∧ RepL W F xs ds
  | .dK ds => ∃ a xs, v = .ref a ∧ Rd H a (.dK xs) ∧ RepK W F xs ds
  | .dT ds => ∃ a xs, v = .ref a ∧ Rd H a (.dT xs) ∧ RepT W F xs ds
  | .ins c ds => ∃ a dx xs, v = .ref a ∧ H a = some (.ins (W.cls c) dx xs) ∧ RepF W F xs ds
  | .scr ns => ∃ a, v = .ref a ∧ SqL W.K H a (ns.map V.int)
  | .non => v = .non
  | .bl b => v = .bl b
  | .int i => v = .int i
  | .str x => v = .str x
theorem LeR.at (le : LeR F H) {a : Addr} {u : HO} (h : F a = some u) (n : ¬ Lockable u) : H a = some u := by
  rcases le a u h with z | ⟨z, _⟩
  · exact z
  · exact (n z).elim
theorem LeR.rd (le : LeR F H) {a : Addr} {u : HO} (h : F a = some u) : Rd H a u := by
  rcases le a u h with z | ⟨_, z⟩
  · exact .inl z
  · exact .inr z
theorem Rep.rh {v : V} {d : D} (le : LeR F H) (h : Rep W F v d) : RH W F H v d := by
  cases h with
  | non => rfl
  | bl b => rfl
  | int i => rfl
  | str x => rfl
  | tup h r =>
    refine ⟨_, _, rfl, h, ?_, r⟩
    rcases h with h | ⟨_, _, h⟩
    · exact .inl (.inl (le.at h fun z => z))
    · exact .inr h
  | lst h r => exact ⟨_, _, rfl, le.at h fun z => z, r⟩
  | dK h r => exact ⟨_, _, rfl, le.rd h, r⟩
  | dT h r => exact ⟨_, _, rfl, le.rd h, r⟩
  | ins h r => exact ⟨_, _, _, rfl, le.at h fun z => z, r⟩
  | scr h =>
    refine ⟨_, rfl, ?_⟩
    rcases h with (h | ⟨o, h⟩) | h
    · exact .inl (.inl (le.at h fun z => z))
    · exact .inl (.inr ⟨o, le.at h fun z => z⟩)
    · exact .inr h
theorem CellOk.rh {a : Addr} {c : Cell} (h : CellOk W F H a c) : RH W F H (.ref a) c.toD := by
  cases c with
  | lst ds => obtain ⟨_, xs, h, r⟩ := h; exact ⟨a, xs, rfl, h, r⟩
  | dK ds => obtain ⟨_, xs, h, r⟩ := h; exact ⟨a, xs, rfl, .inl h, r⟩
  | dT ds => obtain ⟨_, xs, h, r⟩ := h; exact ⟨a, xs, rfl, .inl h, r⟩
  | ins c ds => obtain ⟨_, dx, xs, h, r⟩ := h; exact ⟨a, dx, xs, rfl, h, r⟩
theorem look_ok (ok : Ok W ba F ρ σ H) {v : V} {x : Val} {k : D → Prop} (hv : VR W F σ v x) (h : look ρ x k) : ∃ d, RH W F H v d ∧ k d := by
  cases x with
  | imm d => exact ⟨d, Rep.rh ok.le hv, h⟩
  | slot i =>
    dsimp only [look] at h
    split at h
    · rename_i s e
      obtain ⟨w, h1, h2⟩ := ok.slots i s e
      have hv : σ[i]? = some (some v) := hv
      rw [hv] at h1
      cases h1
      refine ⟨s.toD, ?_, h⟩
      cases s with
      | imm d => exact Rep.rh ok.le h2
      | own c => obtain ⟨a, e, h2⟩ := h2; subst e; exact h2.rh
      | brw j c => obtain ⟨e, h2⟩ := h2; subst e; exact h2.rh
    · exact h.elim

/-! ### freezing -/
theorem CellOk.frozen {a : Addr} {c : Cell} (le : LeR F H) (h : CellOk W F H a c) : ∃ o, H a = some o ∧ LeR (upd F a o) H ∧ Rep W (upd F a o) (.ref a) c.toD := by
  have hle : ∀ o, H a = some o → LeR (upd F a o) H := fun o e b u hb => by
    by_cases z : b = a
    · subst z; rw [upd_same] at hb; cases hb; exact .inl e
    · rw [upd_ne z] at hb; exact le b u hb
  have hn := h.free
  cases c with
  | lst ds => obtain ⟨_, xs, e, r⟩ := h; exact ⟨_, e, hle _ e, .lst upd_same (r.mono (LeF.new hn))⟩
  | dK ds => obtain ⟨_, xs, e, r⟩ := h; exact ⟨_, e, hle _ e, .dK upd_same (r.mono (LeF.new hn))⟩
  | dT ds => obtain ⟨_, xs, e, r⟩ := h; exact ⟨_, e, hle _ e, .dT upd_same (r.mono (LeF.new hn))⟩
  | ins c ds => obtain ⟨_, dx, xs, e, r⟩ := h; exact ⟨_, e, hle _ e, .ins upd_same (r.mono (LeF.new hn))⟩
theorem get_set (l : List (Option α)) (i j : Nat) (x : Option α) {s : α} (h : (l.set i x)[j]? = some (some s)) : (j = i ∧ x = some s) ∨ (j ≠ i ∧ l[j]? = some (some s)) := by
  by_cases e : j = i
  · subst e
    by_cases hl : j < l.length
    · rw [List.getElem?_set_self hl] at h; exact .inl ⟨rfl, Option.some.inj h⟩
    · rw [List.getElem?_eq_none (by rw [List.length_set]; omega)] at h; cases h
  · rw [List.getElem?_set_ne (Ne.symm e)] at h; exact .inr ⟨e, h⟩
/-- the thing of the i-th slot is frozen where it lies -/
theorem Ok.freeze (ok : Ok W ba F ρ σ H) {i : Nat} {c : Cell} (hi : ρ[i]? = some (some (.own c))) : ∃ v F', σ[i]? = some (some v) ∧ Ok W ba F' (ρ.set i (some (.imm c.toD))) σ H ∧ Step F (Own ρ σ) H F' (Own (ρ.set i (some (.imm c.toD))) σ) H ∧ Rep W F' v c.toD := by
  obtain ⟨v, h1, a, e, h2⟩ := ok.slots i _ hi
  subst e
  obtain ⟨o, ho, hle, hr⟩ := h2.frozen ok.le
  have lf : LeF F (upd F a o) := LeF.new h2.free
  refine ⟨.ref a, upd F a o, h1, ⟨by rw [List.length_set]; exact ok.len, hle, fun j s hj => ?_, fun j k s s' b hj hk z z' e1 e2 => ?_⟩, ⟨lf, fun _ _ h _ => h, fun b u hb n => ?_, fun b ⟨j, s, hj, z, e⟩ => ?_⟩, hr⟩
  · rcases get_set _ _ _ _ hj with ⟨e1, e2⟩ | ⟨e1, e2⟩
    · subst e1; cases e2; exact ⟨_, h1, hr⟩
    · obtain ⟨w, h3, h4⟩ := ok.slots j s e2
      refine ⟨w, h3, ?_⟩
      have stay : ∀ {b c'}, w = .ref b → s.hot → CellOk W F H b c' → CellOk W (upd F a o) H b c' := fun {b c'} eb hs hc => by
        refine hc.stay lf ?_ fun _ h => h
        have nb : b ≠ a := fun z => e1 (ok.inj j i s _ a e2 hi hs True.intro (by rw [h3, eb, z]) h1)
        rw [upd_ne nb]; exact hc.free
      cases s with
      | imm d => exact Rep.mono lf h4
      | own c' => obtain ⟨b, eb, hc⟩ := h4; exact ⟨b, eb, stay eb True.intro hc⟩
      | brw m c' => obtain ⟨eb, hc⟩ := h4; exact ⟨eb, stay eb True.intro hc⟩
  · rcases get_set _ _ _ _ hj with ⟨_, q⟩ | ⟨_, hj'⟩
    · cases q; exact z.elim
    · rcases get_set _ _ _ _ hk with ⟨_, q⟩ | ⟨_, hk'⟩
      · cases q; exact z'.elim
      · exact ok.inj j k s s' b hj' hk' z z' e1 e2
  · by_cases z : b = a
    · subst z; exact .inr (.inl ⟨i, _, hi, True.intro, h1⟩)
    · rw [upd_ne z, n] at hb; cases hb
  · rcases get_set _ _ _ _ hj with ⟨_, q⟩ | ⟨_, hj'⟩
    · cases q; exact z.elim
    · exact .inl ⟨j, s, hj', z, e⟩
theorem frz_ok (ok : Ok W ba F ρ σ H) {v : V} {x : Val} {k : D → Env → Prop} (hv : VR W F σ v x) (h : frz x ρ k) : ∃ d F' ρ', Ok W ba F' ρ' σ H ∧ Step F (Own ρ σ) H F' (Own ρ' σ) H ∧ Rep W F' v d ∧ k d ρ' := by
  cases x with
  | imm d => exact ⟨d, F, ρ, ok, Step.refl _ _ _, hv, h⟩
  | slot i =>
    have hv : σ[i]? = some (some v) := hv
    dsimp only [frz] at h
    split at h
    · rename_i d e
      obtain ⟨w, h1, h2⟩ := ok.slots i _ e
      rw [hv] at h1; cases h1
      exact ⟨d, F, ρ, ok, Step.refl _ _ _, h2, h⟩
    · rename_i c e
      obtain ⟨w, F', h1, ok', st, hr⟩ := ok.freeze e
      rw [hv] at h1; cases h1
      exact ⟨_, F', _, ok', st, hr, h⟩
    · exact h.elim
end DL

set_option Elab.async false
set_option linter.all false
set_option maxRecDepth 100000
set_option maxHeartbeats 2000000
/-! DL: judgements, expressions -/
namespace DL
open PySem L2
abbrev WPE := Env → (Val → Env → Prop) → Prop
abbrev WPN := Env → (Cell → Env → Prop) → Prop
abbrev WPT := Env → (Bool → Env → Prop) → Prop
abbrev WPA := Env → (List Val → Env → Prop) → Prop
/-- what is wanted behind a statement: next; a value, a new thing returned; break, continue -/
structure DEnds where
  nx : Env → Prop
  rt : Val → Env → Prop
  rn : Cell → Env → Prop
  bk : Env → Prop := fun _ => False
  ct : Env → Prop := fun _ => False
abbrev WPS := DEnds → Env → Prop

section
variable (W : Wd) (ba : Nat → Addr) (F : Hp) (ρ : Env) (σ : L2.St) (H : Hp)
def Kont (Q' : Val → Env → Prop) (Q : VK) : Prop := ∀ v x F' ρ' H', Ok W ba F' ρ' σ H' → Step F (Own ρ σ) H F' (Own ρ' σ) H' → VR W F' σ v x → Q' x ρ' → Q v H'
def KontN (Q' : Cell → Env → Prop) (Q : VK) : Prop := ∀ a c F' ρ' H', Ok W ba F' ρ' σ H' → Step F (Own ρ σ) H F' (fun b => Own ρ' σ b ∨ b = a) H' → CellOk W F' H' a c → ¬ Own ρ' σ a → Q' c ρ' → Q (.ref a) H'
def KontT (Q' : Bool → Env → Prop) (Q : Bool → Hp → Prop) : Prop := ∀ b F' ρ' H', Ok W ba F' ρ' σ H' → Step F (Own ρ σ) H F' (Own ρ' σ) H' → Q' b ρ' → Q b H'
def KontA (Q' : List Val → Env → Prop) (Q : List V → Hp → Prop) : Prop := ∀ vs xs F' ρ' H', Ok W ba F' ρ' σ H' → Step F (Own ρ σ) H F' (Own ρ' σ) H' → Paired (VR W F' σ) vs xs → Q' xs ρ' → Q vs H'
structure KontS (D' : DEnds) (D : Ends) : Prop where
  nx : ∀ F' ρ' σ' H', Ok W ba F' ρ' σ' H' → Step F (Own ρ σ) H F' (Own ρ' σ') H' → D'.nx ρ' → D.nx σ' H'
  bk : ∀ F' ρ' σ' H', Ok W ba F' ρ' σ' H' → Step F (Own ρ σ) H F' (Own ρ' σ') H' → D'.bk ρ' → D.bk σ' H'
  ct : ∀ F' ρ' σ' H', Ok W ba F' ρ' σ' H' → Step F (Own ρ σ) H F' (Own ρ' σ') H' → D'.ct ρ' → D.ct σ' H'
  rt : ∀ v x F' ρ' σ' H', Ok W ba F' ρ' σ' H' → Step F (Own ρ σ) H F' (Own ρ' σ') H' → VR W F' σ' v x → D'.rt x ρ' → D.rt v H'
  rn : ∀ a c F' ρ' σ' H', Ok W ba F' ρ' σ' H' → Step F (Own ρ σ) H F' (fun b => Own ρ' σ' b ∨ b = a) H' → CellOk W F' H' a c → ¬ Own ρ' σ' a → D'.rn c ρ' → D.rt (.ref a) H'
end
def LE (W : Wd) (t : WPE) : TE := fun σ H Q => ∃ ba F ρ Q', Ok W ba F ρ σ H ∧ t ρ Q' ∧ Kont W ba F ρ σ H Q' Q
def LN (W : Wd) (t : WPN) : TE := fun σ H Q => ∃ ba F ρ Q', Ok W ba F ρ σ H ∧ t ρ Q' ∧ KontN W ba F ρ σ H Q' Q
def LT (W : Wd) (t : WPT) : TT := fun σ H Q => ∃ ba F ρ Q', Ok W ba F ρ σ H ∧ t ρ Q' ∧ KontT W ba F ρ σ H Q' Q
def LA (W : Wd) (t : WPA) : TA := fun σ H Q => ∃ ba F ρ Q', Ok W ba F ρ σ H ∧ t ρ Q' ∧ KontA W ba F ρ σ H Q' Q
def LS (W : Wd) (t : WPS) : TS := fun D σ H => ∃ ba F ρ D', Ok W ba F ρ σ H ∧ t D' ρ ∧ KontS W ba F ρ σ H D' D

section
variable {X : Cx} {e : Expr} {st : Stmt} {sts : List Stmt} {es : List Expr}
theorem _root_.L2.PE.imp {T T' : TE} (h : PE X e T) (f : ∀ σ H Q, T' σ H Q → T σ H Q) : PE X e T' := ⟨fun pins s σ H Q I t => h.run pins s σ H Q I (f σ H Q t)⟩
theorem _root_.L2.PT.imp {T T' : TT} (h : PT X e T) (f : ∀ σ H Q, T' σ H Q → T σ H Q) : PT X e T' := ⟨fun pins s σ H Q I t => h.run pins s σ H Q I (f σ H Q t)⟩
theorem _root_.L2.PW.imp {T T' : TT} (h : PW X e T) (f : ∀ σ H Q, T' σ H Q → T σ H Q) : PW X e T' := ⟨fun w pins s σ H Q I t => h.run w pins s σ H Q I (f σ H Q t)⟩
theorem _root_.L2.PA.imp {T T' : TA} (h : PA X es T) (f : ∀ σ H Q, T' σ H Q → T σ H Q) : PA X es T' := ⟨fun p pins s σ H Q I t => h.run p pins s σ H Q I (f σ H Q t)⟩
theorem _root_.L2.PS.imp {T T' : TS} (h : PS X st T) (f : ∀ D σ H, T' D σ H → T D σ H) : PS X st T' := ⟨fun pins s σ H D I t => h.run pins s σ H D I (f D σ H t)⟩
theorem _root_.L2.PSs.imp {T T' : TS} (h : PSs X sts T) (f : ∀ D σ H, T' D σ H → T D σ H) : PSs X sts T' := ⟨fun pins s σ H D I t => h.run pins s σ H D I (f D σ H t)⟩
theorem _root_.L2.PE.or {T T' : TE} (h : PE X e T) (h' : PE X e T') : PE X e (fun σ H Q => T σ H Q ∨ T' σ H Q) := ⟨fun pins s σ H Q I t => t.elim (h.run pins s σ H Q I) (h'.run pins s σ H Q I)⟩
end

variable {W : Wd} {ba : Nat → Addr} {F F1 F' H H1 H' : Hp} {ρ ρ1 ρ' : Env} {σ σ' : L2.St}
theorem Kont.step {Q' Q} (k : Kont W ba F ρ σ H Q' Q) (s : Step F (Own ρ σ) H F1 (Own ρ1 σ) H1) : Kont W ba F1 ρ1 σ H1 Q' Q := fun v x F' ρ' H' ok s' => k v x F' ρ' H' ok (s.trans s')
theorem KontN.step {Q' Q} (k : KontN W ba F ρ σ H Q' Q) (s : Step F (Own ρ σ) H F1 (Own ρ1 σ) H1) : KontN W ba F1 ρ1 σ H1 Q' Q := fun v x F' ρ' H' ok s' => k v x F' ρ' H' ok (s.trans s')
theorem KontT.step {Q' Q} (k : KontT W ba F ρ σ H Q' Q) (s : Step F (Own ρ σ) H F1 (Own ρ1 σ) H1) : KontT W ba F1 ρ1 σ H1 Q' Q := fun b F' ρ' H' ok s' => k b F' ρ' H' ok (s.trans s')
theorem KontA.step {Q' Q} (k : KontA W ba F ρ σ H Q' Q) (s : Step F (Own ρ σ) H F1 (Own ρ1 σ) H1) : KontA W ba F1 ρ1 σ H1 Q' Q := fun vs xs F' ρ' H' ok s' => k vs xs F' ρ' H' ok (s.trans s')
theorem KontS.step {σ1 : L2.St} {D' D} (k : KontS W ba F ρ σ H D' D) (s : Step F (Own ρ σ) H F1 (Own ρ1 σ1) H1) : KontS W ba F1 ρ1 σ1 H1 D' D :=
  ⟨fun F' ρ' σ' H' ok s' => k.nx F' ρ' σ' H' ok (s.trans s'), fun F' ρ' σ' H' ok s' => k.bk F' ρ' σ' H' ok (s.trans s'), fun F' ρ' σ' H' ok s' => k.ct F' ρ' σ' H' ok (s.trans s'),
   fun v x F' ρ' σ' H' ok s' => k.rt v x F' ρ' σ' H' ok (s.trans s'), fun a c F' ρ' σ' H' ok s' => k.rn a c F' ρ' σ' H' ok (s.trans s')⟩

/-! ### new objects -/
theorem LeR.none (le : LeR F H) {a : Addr} (h : H a = none) : F a = none := by
  cases q : F a with
  | none => rfl
  | some o =>
    rcases le a o q with z | ⟨_, _, z⟩ <;> rw [h] at z <;> cases z
/-- a new thing that stays -/
theorem fresh_F (le : LeR F H) {p : Addr} {o : HO} (h : H p = none) : LeR (upd F p o) (upd H p o) ∧ Step F (fun _ => False) H (upd F p o) (fun _ => False) (upd H p o) := by
  have hF := le.none h
  refine ⟨fun a u e => ?_, LeF.new hF, fun a u e _ => ?_, fun a u e n => ?_, fun _ z => z.elim⟩
  · by_cases z : a = p
    · subst z; rw [upd_same] at e; cases e; exact .inl upd_same
    · rw [upd_ne z] at e; rw [upd_ne z]; exact le a u e
  · rw [upd_ne (ne_of_none e h)]; exact e
  · by_cases z : a = p
    · subst z; exact .inl h
    · rw [upd_ne z, n] at e; cases e
/-- a new thing that may change -/
theorem fresh_H (le : LeR F H) {p : Addr} {o : HO} (h : H p = none) : LeR F (upd H p o) ∧ Step F (fun _ => False) H F (fun b => b = p) (upd H p o) := by
  have hF := le.none h
  refine ⟨fun a u e => ?_, LeF.refl F, fun a u e _ => ?_, fun a u e n => ?_, fun a z => .inr (by subst z; exact h)⟩
  · rw [upd_ne (ne_of_none e hF)]; exact le a u e
  · rw [upd_ne (ne_of_none e h)]; exact e
  · rw [n] at e; cases e
theorem Own.ne_fresh (ok : Ok W ba F ρ σ H) {p : Addr} (h : H p = none) : ¬ Own ρ σ p := fun z => by
  obtain ⟨_, o, e⟩ := ok.own_free z
  rw [h] at e; cases e

/-! ### names and constants -/
def dVar (i : Nat) : WPE := fun ρ Q => match ρ[i]? with
  | some (some (.imm d)) => Q (.imm d) ρ
  | some (some _) => Q (.slot i) ρ
  | _ => False
def dC (d : D) : WPE := fun ρ Q => Q (.imm d) ρ
section
variable {X : Cx} {pos : Pos}
theorem le_var (i : Nat) {x : Str} (hN : X.N[i]? = some x := by rfl) (hv : Vis X.env.scope x := by first | exact Or.inl rfl | exact Or.inr (Or.inl rfl) | exact Or.inr (Or.inr rfl)) (hd : (x == ("__debug__" : Str)) = false := by decide)
    (hcd : (x == ("__classdict__" : Str)) = false := by decide) : PE X (.Name x pos) (LE W (dVar i)) := (pe_var hN hv hd hcd).imp fun σ H Q ⟨ba, F, ρ, Q', ok, h, k⟩ => by
  dsimp only [dVar] at h
  split at h
  · rename_i d e
    obtain ⟨v, h1, h2⟩ := ok.slots i _ e
    exact ⟨v, h1, k v (.imm d) F ρ H ok (Step.refl _ _ _) h2 h⟩
  · rename_i s _ e
    obtain ⟨v, h1, h2⟩ := ok.slots i _ e
    exact ⟨v, h1, k v (.slot i) F ρ H ok (Step.refl _ _ _) h1 h⟩
  · exact h.elim
theorem le_c {e : Expr} {v : V} {d : D} (h : PE X e (tC v)) (r : ∀ F, Rep W F v d) : PE X e (LE W (dC d)) := h.imp fun σ H Q ⟨ba, F, ρ, Q', ok, h, k⟩ => k v (.imm d) F ρ H ok (Step.refl _ _ _) (r F) h
theorem le_int {i : Int} {j} : PE X (.Constant (.int i) j pos) (LE W (dC (.int i))) := le_c pe_int fun _ => .int i
theorem le_bl {b : Bool} {j} : PE X (.Constant (.bool b) j pos) (LE W (dC (.bl b))) := le_c pe_bl fun _ => .bl b
theorem le_non {j} : PE X (.Constant .none j pos) (LE W (dC .non)) := le_c pe_non fun _ => .non
theorem le_str {x : Str} {j} : PE X (.Constant (.str x) j pos) (LE W (dC (.str x))) := le_c pe_str fun _ => .str x
theorem le_glob {x : Str} {v : V} {u : Value} {d : D} (hg : Gl X x) (hm : X.mg x = some u) (r : RelV v u) (hr : ∀ F, Rep W F v d) (hd : (x == ("__debug__" : Str)) = false := by decide) : PE X (.Name x pos) (LE W (dC d)) := le_c (pe_glob hg hm r hd) hr
end

/-! ### operations by values -/
/-- the wish behind an operation on (F, H) -/
def KR (W : Wd) (F H : Hp) (k : D → Prop) (Q : VK) : Prop := ∀ r u F' H', LeR F' H' → Step F (fun _ => False) H F' (fun _ => False) H' → Rep W F' u r → k r → Q u H'
theorem KR.now {k : D → Prop} {Q : VK} (h : KR W F H k Q) (le : LeR F H) {u : V} {r : D} (hr : Rep W F u r) (q : k r) : Q u H := h r u F H le (Step.refl _ _ _) hr q
theorem KR.lst {k : D → Prop} {Q : VK} (h : KR W F H k Q) (le : LeR F H) {xs : List V} {ds : List D} (hr : RepL W F xs ds) (q : k (.lst ds)) : ∀ p, H p = none → Q (.ref p) (upd H p (.lst xs)) := fun p hp =>
  let ⟨l, s⟩ := fresh_F (o := .lst xs) le hp; h _ _ _ _ l s (.lst upd_same (hr.mono s.f)) q
theorem KR.tup {k : D → Prop} {Q : VK} (h : KR W F H k Q) (le : LeR F H) {xs : List V} {ds : List D} (hr : RepL W F xs ds) (q : k (.tup ds)) : ∀ p, H p = none → Q (.ref p) (upd H p (.tup xs)) := fun p hp =>
  let ⟨l, s⟩ := fresh_F (o := .tup xs) le hp; h _ _ _ _ l s (.tup (.inl upd_same) (hr.mono s.f)) q
abbrev G2 := D → D → (D → Prop) → Prop
abbrev G1 := D → (D → Prop) → Prop
abbrev GL := List D → (D → Prop) → Prop
def RealB (W : Wd) (g : G2) (r : R2) : Prop := ∀ F H v w d e k Q, LeR F H → RH W F H v d → RH W F H w e → g d e k → KR W F H k Q → r v w H Q
def RealU (W : Wd) (g : G1) (r : V → Hp → VK → Prop) : Prop := ∀ F H v d k Q, LeR F H → RH W F H v d → g d k → KR W F H k Q → r v H Q
def RealL (W : Wd) (g : GL) (r : List V → Hp → VK → Prop) : Prop := ∀ F H vs ds k Q, LeR F H → Paired (RH W F H) vs ds → g ds k → KR W F H k Q → r vs H Q
def dBin (g : G2) (ta tb : WPE) : WPE := fun ρ Q => ta ρ fun x ρ1 => tb ρ1 fun y ρ2 => look ρ2 x fun d => look ρ2 y fun e => g d e fun r => Q (.imm r) ρ2
def dUn (g : G1) (ta : WPE) : WPE := fun ρ Q => ta ρ fun x ρ1 => look ρ1 x fun d => g d fun r => Q (.imm r) ρ1
theorem kr_of {Q' : Val → Env → Prop} {Q : VK} (ok : Ok W ba F ρ σ H) (k : Kont W ba F ρ σ H Q' Q) : KR W F H (fun r => Q' (.imm r) ρ) Q := fun r u F' H' le s hr q =>
  k u (.imm r) F' ρ H' (ok.after le s) s.keep hr q
theorem bin_ok {g : G2} {r : R2} {ta tb : WPE} {Q : VK} (hg : RealB W g r) (h : LE W (dBin g ta tb) σ H Q) : tOp r (LE W ta) (LE W tb) σ H Q := by
  obtain ⟨ba, F, ρ, Q', ok, h, k⟩ := h
  refine ⟨ba, F, ρ, _, ok, h, fun v x F1 ρ1 H1 ok1 s1 r1 h1 => ?_⟩
  refine ⟨ba, F1, ρ1, _, ok1, h1, fun w y F2 ρ2 H2 ok2 s2 r2 h2 => ?_⟩
  obtain ⟨d, hd, h3⟩ := look_ok ok2 (r1.mono s2.f) h2
  obtain ⟨e, he, h4⟩ := look_ok ok2 r2 h3
  exact hg F2 H2 v w d e _ Q ok2.le hd he h4 (kr_of ok2 (k.step (s1.trans s2)))
theorem un_ok {g : G1} {r : V → Hp → VK → Prop} {ta : WPE} {Q : VK} (hg : RealU W g r) (h : LE W (dUn g ta) σ H Q) : tUn r (LE W ta) σ H Q := by
  obtain ⟨ba, F, ρ, Q', ok, h, k⟩ := h
  refine ⟨ba, F, ρ, _, ok, h, fun v x F1 ρ1 H1 ok1 s1 r1 h1 => ?_⟩
  obtain ⟨d, hd, h3⟩ := look_ok ok1 r1 h1
  exact hg F1 H1 v d _ Q ok1.le hd h3 (kr_of ok1 (k.step s1))
section
variable {X : Cx} {a b : Expr} {ta tb : WPE} {pos : Pos} {g : G2} {g1 : G1} {r : R2}
theorem le_bin {op : Operator} (ho : OpR X (binaryOp op) r) (hg : RealB W g r) (ha : PE X a (LE W ta)) (hb : PE X b (LE W tb)) : PE X (.BinOp a op b pos) (LE W (dBin g ta tb)) := (pe_op ho ha hb).imp fun σ H Q h => bin_ok hg h
theorem le_un {op : UnaryOp} {r : V → Hp → VK → Prop} (ho : UnR X (unaryOp op) r) (hg : RealU W g1 r) (ha : PE X a (LE W ta)) : PE X (.UnaryOp op a pos) (LE W (dUn g1 ta)) := (pe_un ho ha).imp fun σ H Q h => un_ok hg h
theorem le_cmp {op : CmpOp} (ho : OpR X (compareOp op) r) (hg : RealB W g r) (hm : behindInMarks op b = false) (ha : PE X a (LE W ta)) (hb : PE X b (LE W tb)) : PE X (.Compare a [op] [b] pos) (LE W (dBin g ta tb)) := (pe_cmpR ho ha hb hm).imp fun σ H Q h => bin_ok hg h
theorem le_ix (hr : IxR X r) (hg : RealB W g r) (hs : PlainIx b) (ha : PE X a (LE W ta)) (hb : PE X b (LE W tb)) : PE X (.Subscript a b pos) (LE W (dBin g ta tb)) := (pe_ix hr ha hb hs).imp fun σ H Q h => bin_ok hg h
end
theorem RealB.or {g g' : G2} {r r' : R2} (h : RealB W g r) (h' : RealB W g' r') : RealB W (fun d e k => g d e k ∨ g' d e k) (fun x y H Q => r x y H Q ∨ r' x y H Q) :=
  fun F H v w d e k Q le hd he q kr => q.imp (fun q => h F H v w d e k Q le hd he q kr) fun q => h' F H v w d e k Q le hd he q kr

/-! ### arithmetic -/
theorem RepL.length {xs : List V} {ds : List D} (h : RepL W F xs ds) : xs.length = ds.length := by
  induction ds generalizing xs with
  | nil => cases h; rfl
  | cons d ds ih => cases h with | cons _ r => simp [ih r]
theorem RepL.append {xs ys : List V} {ds es : List D} (h : RepL W F xs ds) (h' : RepL W F ys es) : RepL W F (xs ++ ys) (ds ++ es) := by
  induction ds generalizing xs with
  | nil => cases h; exact h'
  | cons d ds ih => cases h with | cons a r => exact .cons a (ih r)
theorem RepL.get {xs : List V} {ds : List D} (h : RepL W F xs ds) {i : Nat} {d : D} (e : ds[i]? = some d) : ∃ v, xs[i]? = some v ∧ Rep W F v d := by
  induction ds generalizing xs i with
  | nil => simp at e
  | cons d ds ih =>
    cases h with
    | cons a r =>
      cases i with
      | zero => simp at e; subst e; exact ⟨_, rfl, a⟩
      | succ i => simp at e; obtain ⟨v, h1, h2⟩ := ih r e; exact ⟨v, by simpa using h1, h2⟩
theorem RepL.set {xs : List V} {ds : List D} (h : RepL W F xs ds) (i : Nat) {v : V} {d : D} (r : Rep W F v d) : RepL W F (xs.set i v) (ds.set i d) := by
  induction ds generalizing xs i with
  | nil => cases h; exact .nil
  | cons d' ds ih =>
    cases h with
    | cons a q =>
      cases i with
      | zero => exact .cons r q
      | succ i => exact .cons a (ih q i)
theorem RepL.take {xs : List V} {ds : List D} (h : RepL W F xs ds) (i : Nat) : RepL W F (xs.take i) (ds.take i) := by
  induction ds generalizing xs i with
  | nil => cases h; simp; exact .nil
  | cons d ds ih =>
    cases h with
    | cons a q =>
      cases i with
      | zero => exact .nil
      | succ i => exact .cons a (ih q i)
theorem RepL.drop {xs : List V} {ds : List D} (h : RepL W F xs ds) (i : Nat) : RepL W F (xs.drop i) (ds.drop i) := by
  induction ds generalizing xs i with
  | nil => cases h; simp; exact .nil
  | cons d ds ih =>
    cases h with
    | cons a q =>
      cases i with
      | zero => exact .cons a q
      | succ i => exact ih q i
theorem RepL.ne_nil {xs : List V} {ds : List D} (h : RepL W F xs ds) : xs = [] ↔ ds = [] := by
  cases h <;> simp

theorem RH.rep {v : V} {d : D} (h : RH W F H v d) : (∀ l, d ≠ .lst l) → (∀ l, d ≠ .dK l) → (∀ l, d ≠ .dT l) → (∀ c l, d ≠ .ins c l) → (∀ l, d ≠ .scr l) → Rep W F v d := by
  intro h1 h2 h3 h4 h5
  cases d with
  | non => cases h; exact .non
  | bl b => cases h; exact .bl b
  | int i => cases h; exact .int i
  | str x => cases h; exact .str x
  | tup l => obtain ⟨a, xs, rfl, h, _, r⟩ := h; exact .tup h r
  | lst l => exact (h1 l rfl).elim
  | dK l => exact (h2 l rfl).elim
  | dT l => exact (h3 l rfl).elim
  | ins c l => exact (h4 c l rfl).elim
  | scr l => exact (h5 l rfl).elim

def addD : G2 := fun d e k => match d, e with
  | .int i, .int j => k (.int (i + j))
  | .str x, .str y => x.length + y.length ≤ sizeLine ∧ k (.str (x ++ y))
  | .lst l, .lst m => l.length + m.length ≤ sizeLine ∧ k (.lst (l ++ m))
  | .tup l, .tup m => l.length + m.length ≤ sizeLine ∧ k (.tup (l ++ m))
  | _, _ => False
abbrev rAddD (K : PySem.W.Frag) : R2 := fun x y H Q => rI0 (fun i j => .int (i + j)) x y H Q ∨ (∃ i j, x = .str i ∧ y = .str j ∧ i.length + j.length ≤ sizeLine ∧ Q (.str (i ++ j)) H) ∨ rCat x y H Q ∨ rCatA K x y H Q
theorem op_addD {X : Cx} : OpR X (binaryOp .Add) (rAddD X.K) := op_add.or (op_add_str.or (op_cat.or op_catA))
theorem real_add : RealB W addD (rAddD W.K) := by
  intro F H v w d e k Q le hd he g kr
  unfold addD at g
  split at g
  · cases hd; cases he
    exact .inl ⟨_, _, rfl, rfl, kr.now le (.int _) g⟩
  · cases hd; cases he
    exact .inr (.inl ⟨_, _, rfl, rfl, g.1, kr.now le (.str _) g.2⟩)
  · obtain ⟨a, xs, rfl, h1, r1⟩ := hd
    obtain ⟨b, ys, rfl, h2, r2⟩ := he
    exact .inr (.inr (.inl ⟨a, b, xs, ys, rfl, rfl, h1, h2, by rw [r1.length, r2.length]; exact g.1, kr.lst le (r1.append r2) g.2⟩))
  · obtain ⟨a, xs, rfl, s1, h1, r1⟩ := hd
    obtain ⟨b, ys, rfl, s2, h2, r2⟩ := he
    obtain ⟨g1, g2⟩ := g
    refine .inr (.inr (.inr ⟨a, b, xs, ys, rfl, rfl, h1, h2, by rw [r1.length, r2.length]; exact g1, fun z => ?_, fun _ z => ?_, fun _ _ => kr.tup le (r1.append r2) g2⟩))
    · rw [r1.ne_nil.mp z, List.nil_append] at g2
      exact kr.now le (.tup s2 r2) g2
    · rw [r2.ne_nil.mp z, List.append_nil] at g2
      exact kr.now le (.tup s1 r1) g2
  · exact g.elim
/-- int operations under a condition -/
def intD (C : Int → Int → Prop) (f : Int → Int → Int) : G2 := fun d e k => match d, e with
  | .int i, .int j => C i j ∧ k (.int (f i j))
  | _, _ => False
theorem real_int {C : Int → Int → Prop} {f : Int → Int → Int} : RealB W (intD C f) (rI C fun i j => .int (f i j)) := by
  intro F H v w d e k Q le hd he g kr
  unfold intD at g
  split at g
  · cases hd; cases he
    exact ⟨_, _, rfl, rfl, g.1, kr.now le (.int _) g.2⟩
  · exact g.elim
abbrev subD : G2 := intD (fun _ _ => True) fun i j => i - j
theorem op_subD {X : Cx} : OpR X (binaryOp .Sub) (rI (fun _ _ => True) fun i j => .int (i - j)) := fun pins s σ H x y v u Q I rx ry ⟨i, j, h1, h2, _, q⟩ => op_sub pins s σ H x y v u Q I rx ry ⟨i, j, h1, h2, q⟩
/-- what may be taken times: one below 2^64, or both together below a million bits -/
def CM (i j : Int) : Prop := CMul i j ∨ CMulW i j
abbrev mulD : G2 := intD CM fun i j => i * j
theorem op_mulD {X : Cx} : OpR X (binaryOp .Mult) (rI CM fun i j => .int (i * j)) := fun pins s σ H x y v u Q I rx ry ⟨i, j, h1, h2, c, q⟩ =>
  c.elim (fun c => op_mul pins s σ H x y v u Q I rx ry ⟨i, j, h1, h2, c, q⟩) fun c => op_mulW pins s σ H x y v u Q I rx ry ⟨i, j, h1, h2, c, q⟩
abbrev fdivD : G2 := intD CDivW fun i j => i / j
abbrev modD : G2 := intD (fun _ j => 0 < j) fun i j => i % j
abbrev powD : G2 := intD CPow fun i j => i ^ j.toNat
def negD : G1 := fun d k => match d with
  | .int i => k (.int (-i))
  | _ => False
theorem real_neg : RealU W negD (rU fun i => .int (-i)) := by
  intro F H v d k Q le hd g kr
  unfold negD at g
  split at g
  · cases hd; exact ⟨_, rfl, kr.now le (.int _) g⟩
  · exact g.elim

/-! ### comparisons -/
/-- the order of ints and of texts -/
def ltD (d e : D) : Option Bool := match d, e with
  | .int i, .int j => some (decide (i < j))
  | .str x, .str y => some (decide (x.cps.toList < y.cps.toList))
  | _, _ => none
def ordG (f : D → D → Option Bool) (neg : Bool) : G2 := fun d e k => match f d e with
  | some b => k (.bl (b != neg))
  | none => False
abbrev rCmpO (p : Int → Int → Bool) (q : Str → Str → Bool) : R2 := fun x y H Q => rI0 (fun i j => .bl (p i j)) x y H Q ∨ ∃ i j, x = .str i ∧ y = .str j ∧ Q (.bl (q i j)) H
theorem op_ltD {X : Cx} : OpR X (compareOp .Lt) (rCmpO (fun i j => decide (i < j)) fun i j => decide (i.cps.toList < j.cps.toList)) := op_lt.or op_lt_str
theorem op_leD {X : Cx} : OpR X (compareOp .LtE) (rCmpO (fun i j => decide (i ≤ j)) fun i j => !decide (j.cps.toList < i.cps.toList)) := op_le.or op_le_str
theorem op_gtD {X : Cx} : OpR X (compareOp .Gt) (rCmpO (fun i j => decide (j < i)) fun i j => decide (j.cps.toList < i.cps.toList)) := op_gt.or op_gt_str
theorem op_geD {X : Cx} : OpR X (compareOp .GtE) (rCmpO (fun i j => decide (j ≤ i)) fun i j => !decide (i.cps.toList < j.cps.toList)) := op_ge.or op_ge_str
def cmpD (p : Int → Int → Bool) (q : Str → Str → Bool) : G2 := fun d e k => match d, e with
  | .int i, .int j => k (.bl (p i j))
  | .str x, .str y => k (.bl (q x y))
  | _, _ => False
theorem real_cmp {p : Int → Int → Bool} {q : Str → Str → Bool} : RealB W (cmpD p q) (rCmpO p q) := by
  intro F H v w d e k Q le hd he g kr
  unfold cmpD at g
  split at g
  · cases hd; cases he
    exact .inl ⟨_, _, rfl, rfl, kr.now le (.bl _) g⟩
  · cases hd; cases he
    exact .inr ⟨_, _, rfl, rfl, kr.now le (.bl _) g⟩
  · exact g.elim
abbrev ltG : G2 := cmpD (fun i j => decide (i < j)) fun i j => decide (i.cps.toList < j.cps.toList)
abbrev leG : G2 := cmpD (fun i j => decide (i ≤ j)) fun i j => !decide (j.cps.toList < i.cps.toList)
abbrev gtG : G2 := cmpD (fun i j => decide (j < i)) fun i j => decide (j.cps.toList < i.cps.toList)
abbrev geG : G2 := cmpD (fun i j => decide (j ≤ i)) fun i j => !decide (i.cps.toList < j.cps.toList)

/-! == of data -/
mutual
def toP : D → Option PyData
  | .non => some .none
  | .bl b => some (.bool b)
  | .int i => some (.int i)
  | .str x => some (.str x)
  | .tup l => (toPs l).map .tuple
  | .lst l => (toPs l).map .list
  | .dK _ => none
  | .dT _ => none
  | .ins _ _ => none
  | .scr _ => none
def toPs : List D → Option (List PyData)
  | [] => some []
  | d :: ds => (toP d).bind fun p => (toPs ds).map fun ps => p :: ps
end
/-- == of scalars, told at once -/
def eqS (d e : D) : Option Bool := match d, e with
  | .int i, .int j => some (decide (i = j))
  | .str x, .str y => some (decide (x = y))
  | .bl a, .bl b => some (decide (a = b))
  | .non, .non => some true
  | .int _, .str _ => some false
  | .str _, .int _ => some false
  | .non, .int _ => some false
  | .int _, .non => some false
  | .non, .str _ => some false
  | .str _, .non => some false
  | .non, .bl _ => some false
  | .bl _, .non => some false
  | _, _ => none
def eqD (d e : D) : Option Bool := match eqS d e with
  | some b => some b
  | none => match toP d, toP e with
    | some p, some q => if SeqAt.shaped p = true ∧ SeqAt.shaped q = true then some (PyData.eqv p q) else none
    | _, _ => none
def eqG (neg : Bool) : G2 := fun d e k => match eqD d e with
  | some b => k (.bl (b != neg))
  | none => False
mutual
theorem dp_of (le : LeR F H) : ∀ {d : D} {p : PyData} {v : V}, toP d = some p → Rep W F v d → Dp W.K H v p
  | .non, p, v, e, h => by cases e; cases h; exact .non
  | .bl b, p, v, e, h => by cases e; cases h; exact .bl b
  | .int i, p, v, e, h => by cases e; cases h; exact .int i
  | .str x, p, v, e, h => by cases e; cases h; exact .str x
  | .tup l, p, v, e, h => by
    rw [toP] at e
    obtain ⟨ps, h1, h2⟩ := Option.map_eq_some_iff.mp e
    subst h2
    cases h with
    | tup hs r =>
      obtain ⟨a, xs, e1, _, hs', r'⟩ := Rep.rh le (.tup hs r)
      cases e1
      exact .tup hs' (dps_of le h1 r')
  | .lst l, p, v, e, h => by
    rw [toP] at e
    obtain ⟨ps, h1, h2⟩ := Option.map_eq_some_iff.mp e
    subst h2
    cases h with
    | lst hs r => exact .lst (SqL.of (le.at hs fun z => z)) (dps_of le h1 r)
  | .dK l, p, v, e, h => by rw [toP] at e; cases e
  | .dT l, p, v, e, h => by rw [toP] at e; cases e
  | .ins c l, p, v, e, h => by rw [toP] at e; cases e
  | .scr l, p, v, e, h => by rw [toP] at e; cases e
theorem dps_of (le : LeR F H) : ∀ {ds : List D} {ps : List PyData} {vs : List V}, toPs ds = some ps → RepL W F vs ds → DpAll W.K H vs ps
  | [], ps, vs, e, h => by cases e; cases h; exact .nil
  | d :: ds, ps, vs, e, h => by
    rw [toPs] at e
    obtain ⟨p, h1, h2⟩ := Option.bind_eq_some_iff.mp e
    obtain ⟨qs, h3, h4⟩ := Option.map_eq_some_iff.mp h2
    subst h4
    cases h with
    | cons a r => exact .cons (dp_of le h1 a) (dps_of le h3 r)
end
theorem dp_rh (le : LeR F H) {d : D} {p : PyData} {v : V} (e : toP d = some p) (h : RH W F H v d) : Dp W.K H v p := by
  by_cases hl : ∃ l, d = .lst l
  · obtain ⟨l, rfl⟩ := hl
    rw [toP] at e
    obtain ⟨ps, h1, h2⟩ := Option.map_eq_some_iff.mp e
    subst h2
    obtain ⟨a, xs, rfl, hs, r⟩ := h
    exact .lst (SqL.of hs) (dps_of le h1 r)
  · refine dp_of le e (h.rep (fun l z => hl ⟨l, z⟩) ?_ ?_ ?_ ?_) <;> intros <;> intro z <;> subst z <;> rw [toP] at e <;> cases e
abbrev rEqA (K : PySem.W.Frag) : R2 := fun x y H Q => rEq x y H Q ∨ rEqD K x y H Q
abbrev rNeA (K : PySem.W.Frag) : R2 := fun x y H Q => rNe x y H Q ∨ rNeD K x y H Q
theorem op_eqA {X : Cx} (hu : X.A.units + 64 < cLine) : OpR X (compareOp .Eq) (rEqA X.K) := op_eq.or (op_eqD hu)
theorem op_neA {X : Cx} (hu : X.A.units + 64 < cLine) : OpR X (compareOp .NotEq) (rNeA X.K) := op_ne.or (op_neD hu)
theorem eqS_ok {d e : D} {b : Bool} {v w : V} (h : eqS d e = some b) (hd : RH W F H v d) (he : RH W F H w e) : scal v w = true ∧ b = decide (v = w) := by
  unfold eqS at h
  split at h <;> cases h <;> cases hd <;> cases he <;> simp [scal]
theorem real_eq {neg : Bool} : RealB W (eqG neg) (if neg then rNeA W.K else rEqA W.K) := by
  intro F H v w d e k Q le hd he g kr
  unfold eqG at g
  split at g
  · rename_i b hb
    unfold eqD at hb
    split at hb
    · rename_i b' h1
      cases hb
      obtain ⟨s1, s2⟩ := eqS_ok h1 hd he
      subst s2
      cases neg with
      | false => exact .inl ⟨s1, kr.now le (.bl _) (by simpa using g)⟩
      | true => exact .inl ⟨s1, kr.now le (.bl _) (by simpa using g)⟩
    · split at hb
      · rename_i p q e1 e2
        split at hb
        · rename_i hs
          cases hb
          have d1 := dp_rh le e1 hd
          have d2 := dp_rh le e2 he
          cases neg with
          | false => exact .inr ⟨p, q, d1, d2, hs.1, hs.2, kr.now le (.bl _) (by simpa using g)⟩
          | true => exact .inr ⟨p, q, d1, d2, hs.1, hs.2, kr.now le (.bl _) (by simpa using g)⟩
        · cases hb
      · cases hb
  · exact g.elim
/-- is None -/
def isNG (neg : Bool) : G1 := fun d k => match d with
  | .non => k (.bl (!neg))
  | _ => k (.bl neg)
end DL

set_option Elab.async false
set_option linter.all false
set_option maxRecDepth 100000
set_option maxHeartbeats 2000000
/-! DL: more expressions -/
namespace DL
open PySem L2 PySem.Spec PyProof.Rows
variable {W : Wd} {ba : Nat → Addr} {F F1 F' H H1 H' : Hp} {ρ ρ1 ρ' : Env} {σ σ' : L2.St}

/-! ### is None -/
def isN (d : D) : Bool := match d with | .non => true | _ => false
theorem rh_non {v : V} {d : D} (h : RH W F H v d) : decide (v = .non) = isN d := by
  cases d with
  | non => cases h; rfl
  | bl b => cases h; rfl
  | int i => cases h; rfl
  | str x => cases h; rfl
  | tup l => obtain ⟨a, xs, rfl, _⟩ := h; rfl
  | lst l => obtain ⟨a, xs, rfl, _⟩ := h; rfl
  | dK l => obtain ⟨a, xs, rfl, _⟩ := h; rfl
  | dT l => obtain ⟨a, xs, rfl, _⟩ := h; rfl
  | ins c l => obtain ⟨a, dx, xs, rfl, _⟩ := h; rfl
  | scr l => obtain ⟨a, rfl, _⟩ := h; rfl
def isNG1 (neg : Bool) : G1 := fun d k => k (.bl (isN d != neg))
theorem real_isN {neg : Bool} : RealU W (isNG1 neg) (fun x H Q => Q (.bl (decide (x = .non) != neg)) H) := by
  intro F H v d k Q le hd g kr
  refine kr.now le (.bl _) ?_
  rw [rh_non hd]
  exact g
section
variable {X : Cx} {a b : Expr} {ta tb : WPE} {pos p2 : Pos} {j : Nat}
theorem le_isN (ha : PE X a (LE W ta)) : PE X (.Compare a [.Is] [.Constant .none j p2] pos) (LE W (dUn (isNG1 false) ta)) := (pe_cmp (pc_isN ha)).imp fun σ H Q h => by
  have q := un_ok real_isN h
  simpa [tUn, tIsN] using q
theorem le_notN (ha : PE X a (LE W ta)) : PE X (.Compare a [.IsNot] [.Constant .none j p2] pos) (LE W (dUn (isNG1 true) ta)) := (pe_cmp (pc_notN ha)).imp fun σ H Q h => by
  have q := un_ok real_isN h
  simpa [tUn, tNotN] using q

/-! ### a < b < c -/
def dChain (g g' : G2) (ta tb tc : WPE) : WPE := fun ρ Q => ta ρ fun x ρ1 => tb ρ1 fun y ρ2 => look ρ2 x fun d => look ρ2 y fun e => g d e fun r => match r with
  | .bl true => tc ρ2 fun z ρ3 => look ρ3 y fun e => look ρ3 z fun f => g' e f fun r => Q (.imm r) ρ3
  | .bl false => Q (.imm (.bl false)) ρ2
  | _ => False
theorem chain_ok {g g' : G2} {r r' : R2} {tc : WPE} {Q : VK} (hg : RealB W g r) (hg' : RealB W g' r') (h : LE W (dChain g g' ta tb tc) σ H Q) : tChain r r' (LE W ta) (LE W tb) (LE W tc) σ H Q := by
  obtain ⟨ba, F, ρ, Q', ok, h, k⟩ := h
  refine ⟨ba, F, ρ, _, ok, h, fun v x F1 ρ1 H1 ok1 s1 r1 h1 => ?_⟩
  refine ⟨ba, F1, ρ1, _, ok1, h1, fun w y F2 ρ2 H2 ok2 s2 r2 h2 => ?_⟩
  obtain ⟨d, hd, h3⟩ := look_ok ok2 (r1.mono s2.f) h2
  obtain ⟨e, he, h4⟩ := look_ok ok2 r2 h3
  refine hg F2 H2 v w d e _ _ ok2.le hd he h4 fun q u F3 H3 le3 s3 hr hq => ?_
  have ok3 := ok2.after le3 s3
  split at hq
  · cases hr
    refine ⟨true, rfl, ?_⟩
    rw [if_pos rfl]
    refine ⟨ba, F3, ρ2, _, ok3, hq, fun z c F4 ρ4 H4 ok4 s4 r4 h4 => ?_⟩
    obtain ⟨e', he', h5⟩ := look_ok ok4 (r2.mono (s3.f.trans s4.f)) h4
    obtain ⟨f', hf', h6⟩ := look_ok ok4 r4 h5
    exact hg' F4 H4 w z e' f' _ Q ok4.le he' hf' h6 (kr_of ok4 (k.step (s1.trans (s2.trans (s3.keep.trans s4)))))
  · cases hr
    refine ⟨false, rfl, ?_⟩
    rw [if_neg Bool.false_ne_true]
    exact k (.bl false) (.imm (.bl false)) F3 ρ2 H3 ok3 (s1.trans (s2.trans s3.keep)) (.bl false) hq
  · exact hq.elim
theorem le_chain {c : Expr} {tc : WPE} {op op' : CmpOp} {g g' : G2} {r r' : R2} (ho : OpR X (compareOp op) r) (ho' : OpR X (compareOp op') r') (hg : RealB W g r) (hg' : RealB W g' r') (ha : PE X a (LE W ta)) (hb : PE X b (LE W tb)) (hc : PE X c (LE W tc))
    (hm : lastMarks [op, op'] [b, c] = false := by with_unfolding_all rfl) : PE X (.Compare a [op, op'] [b, c] pos) (LE W (dChain g g' ta tb tc)) := (pe_chain ho ho' ha hb hc hm).imp fun σ H Q h => chain_ok hg hg' h
end

/-! ### tests -/
def dTest (t : WPE) : WPT := fun ρ Q => t ρ fun x ρ1 => match x with
  | .imm (.bl b) => Q b ρ1
  | _ => False
theorem test_ok {t : WPE} {Q : Bool → Hp → Prop} (h : LT W (dTest t) σ H Q) : LE W t σ H fun x H' => ∃ k, x = .bl k ∧ Q k H' := by
  obtain ⟨ba, F, ρ, Q', ok, h, k⟩ := h
  refine ⟨ba, F, ρ, _, ok, h, fun v x F1 ρ1 H1 ok1 s1 r1 h1 => ?_⟩
  split at h1
  · cases r1
    exact ⟨_, rfl, k _ F1 ρ1 H1 ok1 s1 h1⟩
  · exact h1.elim
def dAnd (t u : WPT) : WPT := fun ρ Q => t ρ fun b ρ1 => if b = true then u ρ1 Q else Q false ρ1
def dOr (t u : WPT) : WPT := fun ρ Q => t ρ fun b ρ1 => if b = true then Q true ρ1 else u ρ1 Q
def dNot (t : WPT) : WPT := fun ρ Q => t ρ fun b ρ1 => Q (!b) ρ1
def dIf (c : WPT) (ta tb : WPE) : WPE := fun ρ Q => c ρ fun b ρ1 => if b = true then ta ρ1 Q else tb ρ1 Q
def dAndV (ta tb : WPE) : WPE := fun ρ Q => ta ρ fun x ρ1 => match x with
  | .imm (.bl b) => if b = true then tb ρ1 Q else Q (.imm (.bl false)) ρ1
  | _ => False
def dOrV (ta tb : WPE) : WPE := fun ρ Q => ta ρ fun x ρ1 => match x with
  | .imm (.bl b) => if b = true then Q (.imm (.bl true)) ρ1 else tb ρ1 Q
  | _ => False
def dNotV (ta : WPE) : WPE := fun ρ Q => ta ρ fun x ρ1 => match x with
  | .imm (.bl b) => Q (.imm (.bl (!b))) ρ1
  | _ => False
section
variable {X : Cx} {a b c e : Expr} {rest : List Expr} {ta tb : WPE} {t u : WPT} {pos : Pos}
theorem lt_val (h : PE X e (LE W ta)) (he : ∀ whole, isTrue e X.env whole = (do let v ← whole; standAt e.pos; holding [v] (truthy v)) := by intro _; rfl) : PT X e (LT W (dTest ta)) := (pt_val h he).imp fun σ H Q h => test_ok h
theorem lt_cmp {op : CmpOp} {r : R2} {g : G2} (ho : OpR X (compareOp op) r) (hg : RealB W g r) (hm : behindInMarks op b = false) (ha : PE X a (LE W ta)) (hb : PE X b (LE W tb)) : PT X (.Compare a [op] [b] pos) (LT W (dTest (dBin g ta tb))) :=
  (pt_cmpR ho ha hb hm).imp fun σ H Q h => by
    have q := test_ok h
    exact bin_ok hg q
theorem lt_isN {j p2} (ha : PE X a (LE W ta)) : PT X (.Compare a [.Is] [.Constant .none j p2] pos) (LT W (dTest (dUn (isNG1 false) ta))) := (pt_cmp (pc_isN ha)).imp fun σ H Q h => by
  have q := un_ok real_isN (test_ok h)
  simpa [tUn, tIsN, tB] using q
theorem lt_notN {j p2} (ha : PE X a (LE W ta)) : PT X (.Compare a [.IsNot] [.Constant .none j p2] pos) (LT W (dTest (dUn (isNG1 true) ta))) := (pt_cmp (pc_notN ha)).imp fun σ H Q h => by
  have q := un_ok real_isN (test_ok h)
  simpa [tUn, tNotN, tB] using q
theorem lt_chain {tc : WPE} {op op' : CmpOp} {g g' : G2} {r r' : R2} (ho : OpR X (compareOp op) r) (ho' : OpR X (compareOp op') r') (hg : RealB W g r) (hg' : RealB W g' r') (ha : PE X a (LE W ta)) (hb : PE X b (LE W tb)) (hc : PE X c (LE W tc))
    (hm : lastMarks [op, op'] [b, c] = false := by with_unfolding_all rfl) : PT X (.Compare a [op, op'] [b, c] pos) (LT W (dTest (dChain g g' ta tb tc))) := (pt_chain ho ho' ha hb hc hm).imp fun σ H Q h => chain_ok hg hg' (test_ok h)
theorem lw_and1 (ha : PT X a (LT W t)) : PW X (.BoolOp .And [a] pos) (LT W t) := pw_and1 ha
theorem lw_or1 (ha : PT X a (LT W t)) : PW X (.BoolOp .Or [a] pos) (LT W t) := pw_or1 ha
theorem lw_and (ha : PT X a (LT W t)) (hb : PW X (.BoolOp .And (b :: rest) pos) (LT W u)) : PW X (.BoolOp .And (a :: b :: rest) pos) (LT W (dAnd t u)) := (pw_and ha hb).imp fun σ H Q h => by
  obtain ⟨ba, F, ρ, Q', ok, h, k⟩ := h
  refine ⟨ba, F, ρ, _, ok, h, fun v F1 ρ1 H1 ok1 s1 h1 => ?_⟩
  cases v with
  | true => rw [if_pos rfl] at h1 ⊢; exact ⟨ba, F1, ρ1, Q', ok1, h1, k.step s1⟩
  | false => rw [if_neg Bool.false_ne_true] at h1 ⊢; exact k _ F1 ρ1 H1 ok1 s1 h1
theorem lw_or (ha : PT X a (LT W t)) (hb : PW X (.BoolOp .Or (b :: rest) pos) (LT W u)) : PW X (.BoolOp .Or (a :: b :: rest) pos) (LT W (dOr t u)) := (pw_or ha hb).imp fun σ H Q h => by
  obtain ⟨ba, F, ρ, Q', ok, h, k⟩ := h
  refine ⟨ba, F, ρ, _, ok, h, fun v F1 ρ1 H1 ok1 s1 h1 => ?_⟩
  cases v with
  | true => rw [if_pos rfl] at h1 ⊢; exact k _ F1 ρ1 H1 ok1 s1 h1
  | false => rw [if_neg Bool.false_ne_true] at h1 ⊢; exact ⟨ba, F1, ρ1, Q', ok1, h1, k.step s1⟩
theorem lt_not (ha : PT X a (LT W t)) : PT X (.UnaryOp .Not a pos) (LT W (dNot t)) := (pt_not ha).imp fun σ H Q h => by
  obtain ⟨ba, F, ρ, Q', ok, h, k⟩ := h
  exact ⟨ba, F, ρ, _, ok, h, fun v F1 ρ1 H1 ok1 s1 h1 => k _ F1 ρ1 H1 ok1 s1 h1⟩
theorem le_if (hc : PT X c (LT W t)) (ha : PE X a (LE W ta)) (hb : PE X b (LE W tb)) : PE X (.IfExp c a b pos) (LE W (dIf t ta tb)) := (pe_ifExp hc ha hb).imp fun σ H Q h => by
  obtain ⟨ba, F, ρ, Q', ok, h, k⟩ := h
  refine ⟨ba, F, ρ, _, ok, h, fun v F1 ρ1 H1 ok1 s1 h1 => ?_⟩
  cases v with
  | true => rw [if_pos rfl] at h1 ⊢; exact ⟨ba, F1, ρ1, Q', ok1, h1, k.step s1⟩
  | false => rw [if_neg Bool.false_ne_true] at h1 ⊢; exact ⟨ba, F1, ρ1, Q', ok1, h1, k.step s1⟩
theorem le_one {op} (h : PE X a (LE W ta)) : PE X (.BoolOp op [a] pos) (LE W ta) := pe_one h
theorem le_and (ha : PE X a (LE W ta)) (hb : PE X (.BoolOp .And (b :: rest) pos) (LE W tb)) : PE X (.BoolOp .And (a :: b :: rest) pos) (LE W (dAndV ta tb)) := (pe_and ha hb).imp fun σ H Q h => by
  obtain ⟨ba, F, ρ, Q', ok, h, k⟩ := h
  refine ⟨ba, F, ρ, _, ok, h, fun v x F1 ρ1 H1 ok1 s1 r1 h1 => ?_⟩
  split at h1
  · rename_i b
    cases r1
    refine ⟨b, rfl, ?_⟩
    cases b with
    | true => rw [if_pos rfl] at h1 ⊢; exact ⟨ba, F1, ρ1, Q', ok1, h1, k.step s1⟩
    | false => rw [if_neg Bool.false_ne_true] at h1 ⊢; exact k _ (.imm (.bl false)) F1 ρ1 H1 ok1 s1 (.bl false) h1
  · exact h1.elim
theorem le_or (ha : PE X a (LE W ta)) (hb : PE X (.BoolOp .Or (b :: rest) pos) (LE W tb)) : PE X (.BoolOp .Or (a :: b :: rest) pos) (LE W (dOrV ta tb)) := (pe_or ha hb).imp fun σ H Q h => by
  obtain ⟨ba, F, ρ, Q', ok, h, k⟩ := h
  refine ⟨ba, F, ρ, _, ok, h, fun v x F1 ρ1 H1 ok1 s1 r1 h1 => ?_⟩
  split at h1
  · rename_i b
    cases r1
    refine ⟨b, rfl, ?_⟩
    cases b with
    | true => rw [if_pos rfl] at h1 ⊢; exact k _ (.imm (.bl true)) F1 ρ1 H1 ok1 s1 (.bl true) h1
    | false => rw [if_neg Bool.false_ne_true] at h1 ⊢; exact ⟨ba, F1, ρ1, Q', ok1, h1, k.step s1⟩
  · exact h1.elim
theorem le_not (ha : PE X a (LE W ta)) : PE X (.UnaryOp .Not a pos) (LE W (dNotV ta)) := (pe_not ha).imp fun σ H Q h => by
  obtain ⟨ba, F, ρ, Q', ok, h, k⟩ := h
  refine ⟨ba, F, ρ, _, ok, h, fun v x F1 ρ1 H1 ok1 s1 r1 h1 => ?_⟩
  split at h1
  · cases r1
    exact ⟨_, rfl, k _ (.imm (.bl _)) F1 ρ1 H1 ok1 s1 (.bl _) h1⟩
  · exact h1.elim
end

/-! ### argument lists -/
def dNil : WPA := fun ρ Q => Q [] ρ
def dCons (t : WPE) (ts : WPA) : WPA := fun ρ Q => t ρ fun x ρ1 => ts ρ1 fun xs ρ2 => Q (x :: xs) ρ2
theorem la_nil {X : Cx} : PA X [] (LA W dNil) := pa_nil.imp fun σ H Q ⟨ba, F, ρ, Q', ok, h, k⟩ => k [] [] F ρ H ok (Step.refl _ _ _) .nil h
theorem la_cons {X : Cx} {e : Expr} {es : List Expr} {t : WPE} {ts : WPA} (ha : PE X e (LE W t)) (hr : PA X es (LA W ts)) (hs : starEach (e :: es) X.env = (false, eval e X.env) :: starEach es X.env := by rfl) : PA X (e :: es) (LA W (dCons t ts)) :=
  (pa_cons ha hr hs).imp fun σ H Q ⟨ba, F, ρ, Q', ok, h, k⟩ => by
    refine ⟨ba, F, ρ, _, ok, h, fun v x F1 ρ1 H1 ok1 s1 r1 h1 => ?_⟩
    exact ⟨ba, F1, ρ1, _, ok1, h1, fun vs xs F2 ρ2 H2 ok2 s2 r2 h2 => k (v :: vs) (x :: xs) F2 ρ2 H2 ok2 (s1.trans s2) (.cons (r1.mono s2.f) r2) h2⟩
def frzL : List Val → Env → (List D → Env → Prop) → Prop
  | [], ρ, k => k [] ρ
  | x :: xs, ρ, k => frz x ρ fun d ρ1 => frzL xs ρ1 fun ds ρ2 => k (d :: ds) ρ2
def lookL (ρ : Env) : List Val → (List D → Prop) → Prop
  | [], k => k []
  | x :: xs, k => look ρ x fun d => lookL ρ xs fun ds => k (d :: ds)
theorem vrs_mono (e : LeF F F') : ∀ {vs xs}, Paired (VR W F σ) vs xs → Paired (VR W F' σ) vs xs
  | _, _, .nil => .nil
  | _, _, .cons h r => .cons (h.mono e) (vrs_mono e r)
theorem frzL_ok : ∀ {xs : List Val} {vs : List V} {F : Hp} {ρ : Env} {k : List D → Env → Prop}, Ok W ba F ρ σ H → Paired (VR W F σ) vs xs → frzL xs ρ k →
    ∃ ds F' ρ', Ok W ba F' ρ' σ H ∧ Step F (Own ρ σ) H F' (Own ρ' σ) H ∧ RepL W F' vs ds ∧ k ds ρ'
  | [], _, F, ρ, k, ok, .nil, h => ⟨[], F, ρ, ok, Step.refl _ _ _, .nil, h⟩
  | x :: xs, _, F, ρ, k, ok, .cons hv r, h => by
    obtain ⟨d, F1, ρ1, ok1, s1, hd, h1⟩ := frz_ok ok hv h
    obtain ⟨ds, F2, ρ2, ok2, s2, hds, h2⟩ := frzL_ok ok1 (vrs_mono s1.f r) h1
    exact ⟨d :: ds, F2, ρ2, ok2, s1.trans s2, .cons (Rep.mono s2.f hd) hds, h2⟩
theorem lookL_ok (ok : Ok W ba F ρ σ H) : ∀ {xs : List Val} {vs : List V} {k : List D → Prop}, Paired (VR W F σ) vs xs → lookL ρ xs k → ∃ ds, Paired (RH W F H) vs ds ∧ k ds
  | [], _, k, .nil, h => ⟨[], .nil, h⟩
  | x :: xs, _, k, .cons hv r, h => by
    obtain ⟨d, hd, h1⟩ := look_ok ok hv h
    obtain ⟨ds, hds, h2⟩ := lookL_ok ok r h1
    exact ⟨d :: ds, .cons hd hds, h2⟩

/-! ### displays -/
def dTup (ts : WPA) : WPE := fun ρ Q => ts ρ fun xs ρ1 => frzL xs ρ1 fun ds ρ2 => ds.length ≤ sizeLine ∧ Q (.imm (.tup ds)) ρ2
def dLst (ts : WPA) : WPN := fun ρ Q => ts ρ fun xs ρ1 => frzL xs ρ1 fun ds ρ2 => ds.length ≤ sizeLine ∧ Q (.lst ds) ρ2
def dDK : WPN := fun ρ Q => Q (.dK []) ρ
def dDT : WPN := fun ρ Q => Q (.dT []) ρ
/-- a new thing that is never changed -/
def dFz (t : WPN) : WPE := fun ρ Q => t ρ fun c ρ1 => Q (.imm c.toD) ρ1
theorem Ok.fresh_own (ok : Ok W ba F ρ σ H) {p : Addr} {o : HO} (hp : H p = none) : Ok W ba F ρ σ (upd H p o) ∧ Step F (Own ρ σ) H F (fun b => Own ρ σ b ∨ b = p) (upd H p o) := by
  obtain ⟨l, s⟩ := fresh_H (o := o) ok.le hp
  exact ⟨ok.after l s, s.more fun a z => z.imp id fun z => by subst z; exact hp⟩
theorem KontN.lst {Q' : Cell → Env → Prop} {Q : VK} (k : KontN W ba F ρ σ H Q' Q) (ok : Ok W ba F ρ σ H) {xs : List V} {ds : List D} (r : RepL W F xs ds) (q : Q' (.lst ds) ρ) : ∀ p, H p = none → Q (.ref p) (upd H p (.lst xs)) := fun p hp =>
  let ⟨ok', s⟩ := ok.fresh_own (o := .lst xs) hp
  k p (.lst ds) F ρ _ ok' s ⟨ok.le.none hp, xs, upd_same, r⟩ (Own.ne_fresh ok hp) q
theorem KontN.dK {Q' : Cell → Env → Prop} {Q : VK} (k : KontN W ba F ρ σ H Q' Q) (ok : Ok W ba F ρ σ H) {xs : List (Key × V)} {ds : List (Key × D)} (r : RepK W F xs ds) (q : Q' (.dK ds) ρ) : ∀ p, H p = none → Q (.ref p) (upd H p (.dK xs)) := fun p hp =>
  let ⟨ok', s⟩ := ok.fresh_own (o := .dK xs) hp
  k p (.dK ds) F ρ _ ok' s ⟨ok.le.none hp, xs, upd_same, r⟩ (Own.ne_fresh ok hp) q
theorem KontN.dT {Q' : Cell → Env → Prop} {Q : VK} (k : KontN W ba F ρ σ H Q' Q) (ok : Ok W ba F ρ σ H) {xs : List (List Key × V)} {ds : List (List Key × D)} (r : RepT W F xs ds) (q : Q' (.dT ds) ρ) : ∀ p, H p = none → Q (.ref p) (upd H p (.dT xs)) := fun p hp =>
  let ⟨ok', s⟩ := ok.fresh_own (o := .dT xs) hp
  k p (.dT ds) F ρ _ ok' s ⟨ok.le.none hp, xs, upd_same, r⟩ (Own.ne_fresh ok hp) q
/-- a new thing is frozen: the state behind -/
theorem Ok.freezeNew (ok : Ok W ba F' ρ' σ H') {a : Addr} {c : Cell} (s : Step F (Own ρ σ) H F' (fun b => Own ρ' σ b ∨ b = a) H') (hc : CellOk W F' H' a c) (hn : ¬ Own ρ' σ a) :
    ∃ F2, Ok W ba F2 ρ' σ H' ∧ Step F (Own ρ σ) H F2 (Own ρ' σ) H' ∧ Rep W F2 (.ref a) c.toD ∧ LeF F' F2 := by
  obtain ⟨o, ho, hle, hr⟩ := hc.frozen ok.le
  have lf : LeF F' (upd F' a o) := LeF.new hc.free
  refine ⟨upd F' a o, ⟨ok.len, hle, fun i sv hi => ?_, ok.inj⟩, ⟨s.f.trans lf, s.h, fun b u hb n => ?_, fun b h => s.no b (.inl h)⟩, hr, lf⟩
  · obtain ⟨w, h3, h4⟩ := ok.slots i sv hi
    refine ⟨w, h3, ?_⟩
    have stay : ∀ {b c'}, w = .ref b → sv.hot → CellOk W F' H' b c' → CellOk W (upd F' a o) H' b c' := fun {b c'} eb hs hc => by
      refine hc.stay lf ?_ fun _ h => h
      have nb : b ≠ a := fun z => hn ⟨i, sv, hi, hs, by rw [h3, eb, z]⟩
      rw [upd_ne nb]; exact hc.free
    cases sv with
    | imm d => exact Rep.mono lf h4
    | own c' => obtain ⟨b, eb, hc⟩ := h4; exact ⟨b, eb, stay eb True.intro hc⟩
    | brw m c' => obtain ⟨eb, hc⟩ := h4; exact ⟨eb, stay eb True.intro hc⟩
  · by_cases z : b = a
    · subst z; exact (s.no b (.inr rfl)).elim (fun w => .inr (.inl w)) .inl
    · rw [upd_ne z] at hb; exact s.nf b u hb n
section
variable {X : Cx} {e : Expr} {es : List Expr} {ts : WPA} {tn : WPN} {pos : Pos} {x1 : Nat}
theorem le_of_ln (h : PE X e (LN W tn)) : PE X e (LE W (dFz tn)) := h.imp fun σ H Q ⟨ba, F, ρ, Q', ok, h, k⟩ =>
  ⟨ba, F, ρ, _, ok, h, fun a c F' ρ' H' ok' s hc hn q => by
    obtain ⟨F2, ok2, s2, hr, _⟩ := ok'.freezeNew s hc hn
    exact k (.ref a) (.imm c.toD) F2 ρ' H' ok2 s2 hr q⟩
theorem le_tup (h : PA X es (LA W ts)) : PE X (.Tuple es x1 pos) (LE W (dTup ts)) := (pe_tup h).imp fun σ H Q ⟨ba, F, ρ, Q', ok, h, k⟩ => by
  refine ⟨ba, F, ρ, _, ok, h, fun vs xs F1 ρ1 H1 ok1 s1 r1 h1 => ?_⟩
  obtain ⟨ds, F2, ρ2, ok2, s2, r2, hz, h2⟩ := frzL_ok ok1 r1 h1
  refine ⟨by rw [r2.length]; exact hz, fun p hp => ?_⟩
  obtain ⟨l, s⟩ := fresh_F (o := .tup vs) ok2.le hp
  exact k (.ref p) (.imm (.tup ds)) _ ρ2 _ (ok2.after l s) ((s1.trans s2).trans s.keep) (.tup (.inl upd_same) (r2.mono s.f)) h2
theorem ln_lst (h : PA X es (LA W ts)) : PE X (.List es pos) (LN W (dLst ts)) := (pe_lst h).imp fun σ H Q ⟨ba, F, ρ, Q', ok, h, k⟩ => by
  refine ⟨ba, F, ρ, _, ok, h, fun vs xs F1 ρ1 H1 ok1 s1 r1 h1 => ?_⟩
  obtain ⟨ds, F2, ρ2, ok2, s2, r2, hz, h2⟩ := frzL_ok ok1 r1 h1
  exact ⟨by rw [r2.length]; exact hz, (k.step (s1.trans s2)).lst ok2 r2 h2⟩
theorem ln_dK : PE X (.Dict [] [] pos) (LN W dDK) := pe_dnewK.imp fun σ H Q ⟨ba, F, ρ, Q', ok, h, k⟩ => k.dK ok .nil h
theorem ln_dT : PE X (.Dict [] [] pos) (LN W dDT) := pe_dnewT.imp fun σ H Q ⟨ba, F, ρ, Q', ok, h, k⟩ => k.dT ok .nil h
end
end DL

set_option Elab.async false
set_option linter.all false
set_option maxRecDepth 100000
set_option maxHeartbeats 2000000
/-! DL: builtins, subscripts, membership, slices, texts, attributes -/
namespace DL
open PySem L2 PySem.Spec PyProof.Rows
variable {W : Wd} {ba : Nat → Addr} {F F1 F' H H1 H' : Hp} {ρ ρ1 ρ' : Env} {σ σ' : L2.St}

/-! ### dicts by keys -/
def dget {κ : Type} [DecidableEq κ] (l : List (κ × D)) (k : κ) : Option D := (l.find? fun kv => decide (kv.1 = k)).map (·.2)
def dput {κ : Type} [DecidableEq κ] (l : List (κ × D)) (k : κ) (v : D) : List (κ × D) :=
  if (l.any fun kv => decide (kv.1 = k)) = true then l.map (fun kv => if kv.1 = k then (kv.1, v) else kv) else l ++ [(k, v)]
theorem RepK.any {xs : List (Key × V)} {ds : List (Key × D)} (h : RepK W F xs ds) (k : Key) : (xs.any fun kv => decide (kv.1 = k)) = (ds.any fun kv => decide (kv.1 = k)) := by
  induction ds generalizing xs with
  | nil => cases h; rfl
  | cons d ds ih => cases h with | cons a r => rw [List.any_cons, List.any_cons, ih r]
theorem RepT.any {xs : List (List Key × V)} {ds : List (List Key × D)} (h : RepT W F xs ds) (k : List Key) : (xs.any fun kv => decide (kv.1 = k)) = (ds.any fun kv => decide (kv.1 = k)) := by
  induction ds generalizing xs with
  | nil => cases h; rfl
  | cons d ds ih => cases h with | cons a r => rw [List.any_cons, List.any_cons, ih r]
theorem RepK.length {xs : List (Key × V)} {ds : List (Key × D)} (h : RepK W F xs ds) : xs.length = ds.length := by
  induction ds generalizing xs with
  | nil => cases h; rfl
  | cons d ds ih => cases h with | cons _ r => simp [ih r]
theorem RepT.length {xs : List (List Key × V)} {ds : List (List Key × D)} (h : RepT W F xs ds) : xs.length = ds.length := by
  induction ds generalizing xs with
  | nil => cases h; rfl
  | cons d ds ih => cases h with | cons _ r => simp [ih r]
theorem RepK.val {xs : List (Key × V)} {ds : List (Key × D)} (h : RepK W F xs ds) (k : Key) : (∃ v d, valV xs k = some v ∧ dget ds k = some d ∧ Rep W F v d) ∨ (valV xs k = none ∧ dget ds k = none) := by
  induction ds generalizing xs with
  | nil => cases h; exact .inr ⟨rfl, rfl⟩
  | cons d ds ih =>
    cases h with
    | @cons k' v vs d ds a r =>
      by_cases e : k' = k
      · exact .inl ⟨v, d, by simp [valV, e], by simp [dget, e], a⟩
      · rcases ih r with ⟨v', d', h1, h2, h3⟩ | ⟨h1, h2⟩
        · exact .inl ⟨v', d', by rw [valV_neg e]; exact h1, by simp [dget, e] at h2 ⊢; exact h2, h3⟩
        · exact .inr ⟨by rw [valV_neg e]; exact h1, by simp [dget, e] at h2 ⊢; exact h2⟩
theorem RepT.val {xs : List (List Key × V)} {ds : List (List Key × D)} (h : RepT W F xs ds) (k : List Key) : (∃ v d, valV xs k = some v ∧ dget ds k = some d ∧ Rep W F v d) ∨ (valV xs k = none ∧ dget ds k = none) := by
  induction ds generalizing xs with
  | nil => cases h; exact .inr ⟨rfl, rfl⟩
  | cons d ds ih =>
    cases h with
    | @cons k' v vs d ds a r =>
      by_cases e : k' = k
      · exact .inl ⟨v, d, by simp [valV, e], by simp [dget, e], a⟩
      · rcases ih r with ⟨v', d', h1, h2, h3⟩ | ⟨h1, h2⟩
        · exact .inl ⟨v', d', by rw [valV_neg e]; exact h1, by simp [dget, e] at h2 ⊢; exact h2, h3⟩
        · exact .inr ⟨by rw [valV_neg e]; exact h1, by simp [dget, e] at h2 ⊢; exact h2⟩
theorem RepK.append {xs ys : List (Key × V)} {ds es : List (Key × D)} (h : RepK W F xs ds) (h' : RepK W F ys es) : RepK W F (xs ++ ys) (ds ++ es) := by
  induction ds generalizing xs with
  | nil => cases h; exact h'
  | cons d ds ih => cases h with | cons a r => exact .cons a (ih r)
theorem RepT.append {xs ys : List (List Key × V)} {ds es : List (List Key × D)} (h : RepT W F xs ds) (h' : RepT W F ys es) : RepT W F (xs ++ ys) (ds ++ es) := by
  induction ds generalizing xs with
  | nil => cases h; exact h'
  | cons d ds ih => cases h with | cons a r => exact .cons a (ih r)
theorem RepK.repl {xs : List (Key × V)} {ds : List (Key × D)} (h : RepK W F xs ds) (k : Key) {v : V} {d : D} (r : Rep W F v d) : RepK W F (xs.map fun kv => if kv.1 = k then (kv.1, v) else kv) (ds.map fun kv => if kv.1 = k then (kv.1, d) else kv) := by
  induction ds generalizing xs with
  | nil => cases h; exact .nil
  | cons d' ds ih =>
    cases h with
    | @cons k' v' vs d' ds a q =>
      simp only [List.map_cons]
      by_cases e : k' = k
      · rw [if_pos e, if_pos e]; exact .cons r (ih q)
      · rw [if_neg e, if_neg e]; exact .cons a (ih q)
theorem RepT.repl {xs : List (List Key × V)} {ds : List (List Key × D)} (h : RepT W F xs ds) (k : List Key) {v : V} {d : D} (r : Rep W F v d) : RepT W F (xs.map fun kv => if kv.1 = k then (kv.1, v) else kv) (ds.map fun kv => if kv.1 = k then (kv.1, d) else kv) := by
  induction ds generalizing xs with
  | nil => cases h; exact .nil
  | cons d' ds ih =>
    cases h with
    | @cons k' v' vs d' ds a q =>
      simp only [List.map_cons]
      by_cases e : k' = k
      · rw [if_pos e, if_pos e]; exact .cons r (ih q)
      · rw [if_neg e, if_neg e]; exact .cons a (ih q)
theorem RepK.put {xs : List (Key × V)} {ds : List (Key × D)} (h : RepK W F xs ds) (k : Key) {v : V} {d : D} (r : Rep W F v d) : RepK W F (putK xs k v) (dput ds k d) := by
  unfold putK dput
  rw [h.any k]
  split
  · exact h.repl k r
  · exact h.append (.cons r .nil)
theorem RepT.put {xs : List (List Key × V)} {ds : List (List Key × D)} (h : RepT W F xs ds) (k : List Key) {v : V} {d : D} (r : Rep W F v d) : RepT W F (putK xs k v) (dput ds k d) := by
  unfold putK dput
  rw [h.any k]
  split
  · exact h.repl k r
  · exact h.append (.cons r .nil)
theorem RepF.val {xs : List (Str × V)} {ds : List (Str × D)} (h : RepF W F xs ds) (k : Str) {d : D} (e : ds.lookup k = some d) : ∃ v, xs.lookup k = some v ∧ Rep W F v d := by
  induction ds generalizing xs with
  | nil => cases e
  | cons d' ds ih =>
    cases h with
    | @cons k' v vs d'' ds a r =>
      rw [List.lookup_cons] at e ⊢
      split at e
      · cases e; exact ⟨v, rfl, a⟩
      · exact ih r e
/-- data as a key -/
def keyD : D → Option Key
  | .int i => some (.inl i)
  | .str x => some (.inr x)
  | _ => none
def keysD : List D → Option (List Key)
  | [] => some []
  | d :: ds => (keyD d).bind fun k => (keysD ds).map fun ks => k :: ks
theorem keyD_ok {v : V} {d : D} {k : Key} (e : keyD d = some k) (h : RH W F H v d) : v = kV k := by
  cases d <;> simp [keyD] at e
  · subst e; cases h; rfl
  · subst e; cases h; rfl
theorem rep_scal {v : V} {d : D} {k : Key} (e : keyD d = some k) (h : Rep W F v d) : v = kV k := by
  cases d <;> simp [keyD] at e
  · subst e; cases h; rfl
  · subst e; cases h; rfl
theorem keysD_ok : ∀ {ds : List D} {vs : List V} {ks : List Key}, keysD ds = some ks → RepL W F vs ds → vs = ks.map kV
  | [], _, ks, e, .nil => by cases e; rfl
  | d :: ds, _, ks, e, .cons a r => by
    rw [keysD] at e
    obtain ⟨k, h1, h2⟩ := Option.bind_eq_some_iff.mp e
    obtain ⟨qs, h3, h4⟩ := Option.map_eq_some_iff.mp h2
    subst h4
    rw [rep_scal h1 a, keysD_ok h3 r]; rfl
/-- a key's value in a dict; none: not a dict, not a key -/
def getD (nw : Bool) (d k : D) : Option (Option D) := match d, k with
  | .dK l, .int i => some (dget l (.inl i))
  | .dK l, .str x => some (dget l (.inr x))
  | .dT l, .tup ks => if nw = true ∨ ks.length ≠ 2 then (keysD ks).map fun q => dget l q else none
  | _, _ => none
theorem key_tracked {nw : Bool} (hw : nw = true → W.nw = true) (le : LeR F H) {b : Addr} {ys : List V} {n : List D} (hl : nw = true ∨ n.length ≠ 2) (h8 : ST W F b ys) (hn : ys.length = n.length) : H b = some (.tup ys) := by
  rcases h8 with h8 | ⟨h8, h9, _⟩
  · exact le.at h8 fun z => z
  · rcases hl with hl | hl
    · rw [hw hl] at h8; cases h8
    · omega
theorem getD_ok {nw : Bool} (hw : nw = true → W.nw = true) (le : LeR F H) {d k : D} {r : Option D} {v u : V} (e : getD nw d k = some r) (hd : RH W F H v d) (hk : RH W F H u k) : ∃ a o, v = .ref a ∧ DGet H a u o ∧ ((∃ w x, o = some w ∧ r = some x ∧ Rep W F w x) ∨ (o = none ∧ r = none)) := by
  unfold getD at e
  split at e
  · cases e
    obtain ⟨a, xs, rfl, h1, h2⟩ := hd
    cases hk
    refine ⟨a, _, rfl, .inl ⟨xs, .inl _, h1, rfl, rfl⟩, ?_⟩
    rcases h2.val (.inl _) with ⟨w, x, h3, h4, h5⟩ | ⟨h3, h4⟩
    · exact .inl ⟨w, x, h3, h4, h5⟩
    · exact .inr ⟨h3, h4⟩
  · cases e
    obtain ⟨a, xs, rfl, h1, h2⟩ := hd
    cases hk
    refine ⟨a, _, rfl, .inl ⟨xs, .inr _, h1, rfl, rfl⟩, ?_⟩
    rcases h2.val (.inr _) with ⟨w, x, h3, h4, h5⟩ | ⟨h3, h4⟩
    · exact .inl ⟨w, x, h3, h4, h5⟩
    · exact .inr ⟨h3, h4⟩
  · split at e
    case isFalse => cases e
    rename_i hl
    obtain ⟨q, h6, h7⟩ := Option.map_eq_some_iff.mp e
    subst h7
    obtain ⟨a, xs, rfl, h1, h2⟩ := hd
    obtain ⟨b, ys, rfl, h8, h9, h10⟩ := hk
    have e2 := keysD_ok h6 h10
    have hb : H b = some (.tup (q.map kV)) := by
      rw [← e2]
      exact key_tracked hw le hl h8 h10.length
    refine ⟨a, _, rfl, .inr ⟨xs, q, b, h1, rfl, hb, rfl⟩, ?_⟩
    rcases h2.val q with ⟨w, x, h3, h4, h5⟩ | ⟨h3, h4⟩
    · exact .inl ⟨w, x, h3, h4, h5⟩
    · exact .inr ⟨h3, h4⟩
  · cases e

/-! ### x[i] -/
def flatD : D → Option V
  | .non => some .non
  | .bl b => some (.bl b)
  | .int i => some (.int i)
  | .str x => some (.str x)
  | _ => none
def flatsD : List D → Option (List V)
  | [] => some []
  | d :: ds => (flatD d).bind fun v => (flatsD ds).map fun vs => v :: vs
theorem flatD_ok {v u : V} {d : D} (e : flatD d = some u) (h : RH W F H v d) : v = u ∧ flatV v = true := by
  cases d <;> simp [flatD] at e <;> subst e <;> cases h <;> exact ⟨rfl, rfl⟩
theorem flatR_ok {v u : V} {d : D} (e : flatD d = some u) (h : Rep W F v d) : v = u ∧ flatV v = true := by
  cases d <;> simp [flatD] at e <;> subst e <;> cases h <;> exact ⟨rfl, rfl⟩
theorem flatsD_ok : ∀ {ds : List D} {vs us : List V}, flatsD ds = some us → RepL W F vs ds → vs = us ∧ vs.all flatV = true
  | [], _, us, e, .nil => by cases e; exact ⟨rfl, rfl⟩
  | d :: ds, _, us, e, .cons a r => by
    rw [flatsD] at e
    obtain ⟨k, h1, h2⟩ := Option.bind_eq_some_iff.mp e
    obtain ⟨qs, h3, h4⟩ := Option.map_eq_some_iff.mp h2
    subst h4
    obtain ⟨e1, f1⟩ := flatR_ok h1 a
    obtain ⟨e2, f2⟩ := flatsD_ok h3 r
    subst e1; subst e2
    exact ⟨rfl, by rw [List.all_cons, f1, f2]; rfl⟩
def ixD (nw : Bool) : G2 := fun d e k => match d, e with
  | .lst l, .int i => match atI l i with | some x => k x | none => False
  | .tup l, .int i => match atI l i with | some x => k x | none => False
  | .str z, .int i => z.length ≤ sizeLine ∧ match atI z.cps.toList i with | some c => k (.str ⟨#[c]⟩) | none => False
  | _, _ => match getD nw d e with
    | some (some x) => k x
    | _ => False
abbrev rIxDict : R2 := fun x y H Q => ∃ a v, x = .ref a ∧ DGet H a y (some v) ∧ Q v H
abbrev rIxA (K : PySem.W.Frag) : R2 := fun x y H Q => rIxL K x y H Q ∨ rIxT K x y H Q ∨ rIxS x y H Q ∨ rIxDict x y H Q
theorem d_getItemV {X : Cx} {pins : List (Addr × Obj)} {s : Shared} {a : Addr} {y v : V} {u : Value} {A : Around} {E : Value → Shared → Prop} (hu : A.units + 1 < cLine) (I : Inv X pins σ H s) (g : DGet H a y (some v)) (ry : RelV y u) :
    ∃ w', RelV v w' ∧ ∀ Q : Value → Shared → Prop, (∀ s', Inv X pins σ H s' → Q w' s') → wpAny (model X.prog X.w) A (getItem (.ref a) u) Q E s := by
  rcases g with ⟨kvs, k, e, ey, l⟩ | ⟨kvs, k, b, e, ey, eb, l⟩
  · subst ey
    obtain ⟨z, hd, vs, rel, dd⟩ := dk_rd I.hok e
    obtain ⟨w', hw, rw'⟩ := RelO.some_of (v := v) (o := valueAt vs k) (by rw [l]; exact rel.val k)
    exact ⟨w', rw', fun Q h => wpAny_getItem_of (kV_is ry) dd.mapOf hw (h _ (I.tok _))⟩
  · subst ey
    cases (show u = Value.ref b from ry)
    obtain ⟨z, hd, xs, rel, dd⟩ := dt_rd I.hok e
    obtain ⟨w', hw, rw'⟩ := RelO.some_of (v := v) (o := (atKey xs k).map (·.2)) (by rw [l]; exact rel.val k)
    obtain ⟨p, hp, hp2⟩ := Option.map_eq_some_iff.mp hw
    refine ⟨w', rw', fun Q h => wpAny_getItem_heap (tupleKind_room_in1 hu) (key_of I.hok eb) dd hp ?_⟩
    rw [hp2]
    exact h _ (I.tok _)
section
variable {X : Cx}
theorem ix_dict (hu : X.A.units + 1 < cLine) : IxR X rIxDict := by
  intro value slice pins s σ H x y v u Q I rx ry h hs
  obtain ⟨a, z, rfl, g, q⟩ := h
  cases rx
  obtain ⟨w', rw', go⟩ := d_getItemV (E := X.xe) hu I g ry
  exact subscriptTail_builtinR (x := w') (dict_typeIs I g) PySem.F.slot_dict_getitem.lookup (go _ fun s' I' => ⟨rfl, z, H, I', rw', q⟩) hs
theorem ix_any (hu : X.A.units + 1 < cLine) : IxR X (rIxA X.K) := ix_list.or (ix_tup.or (ix_str.or (ix_dict hu)))
end
theorem atI_map {xs : List V} {ds : List D} (r : RepL W F xs ds) {i : Int} {d : D} (h : atI ds i = some d) : ∃ v, atI xs i = some v ∧ Rep W F v d := by
  unfold atI at h ⊢
  obtain ⟨j, h1, h2⟩ := Option.bind_eq_some_iff.mp h
  obtain ⟨v, h3, h4⟩ := r.get h2
  exact ⟨v, by rw [r.length, h1]; exact h3, h4⟩
theorem real_ix {nw : Bool} (hw : nw = true → W.nw = true) : RealB W (ixD nw) (rIxA W.K) := by
  intro F H v w d e k Q le hd he g kr
  unfold ixD at g
  split at g
  · rename_i l i
    cases he
    obtain ⟨a, xs, rfl, h1, r1⟩ := hd
    split at g
    · rename_i x hx
      obtain ⟨y, h2, h3⟩ := atI_map r1 hx
      exact .inl ⟨a, xs, i, y, rfl, rfl, SqL.of h1, h2, kr.now le h3 g⟩
    · exact g.elim
  · rename_i l i
    cases he
    obtain ⟨a, xs, rfl, _, h1, r1⟩ := hd
    split at g
    · rename_i x hx
      obtain ⟨y, h2, h3⟩ := atI_map r1 hx
      exact .inr (.inl ⟨a, xs, i, y, rfl, rfl, h1, h2, kr.now le h3 g⟩)
    · exact g.elim
  · rename_i z i
    cases he
    cases hd
    obtain ⟨hz, g⟩ := g
    split at g
    · rename_i c hc
      exact .inr (.inr (.inl ⟨z, i, c, rfl, rfl, hz, hc, kr.now le (.str _) g⟩))
    · exact g.elim
  · split at g
    · rename_i x hx
      obtain ⟨a, o, rfl, h1, h2⟩ := getD_ok hw le hx hd he
      rcases h2 with ⟨y, x', rfl, h3, h4⟩ | ⟨_, h3⟩
      · cases h3
        exact .inr (.inr (.inr ⟨a, y, rfl, h1, kr.now le h4 g⟩))
      · cases h3
    · exact g.elim

/-! ### x in c -/
/-- one sign in a text; something flat in a list or tuple of flat things; a key in a dict -/
def inD (nw : Bool) (d e : D) : Option Bool := match d, e with
  | .str x, .str z => match x.cps.toList with
    | [c] => some (decide (c ∈ z.cps.toList))
    | _ => none
  | _, .lst l => match flatD d, flatsD l with | some v, some vs => some (inV v vs) | _, _ => none
  | _, .tup l => match flatD d, flatsD l with | some v, some vs => some (inV v vs) | _, _ => none
  | _, _ => (getD nw e d).map Option.isSome
def inG (nw neg : Bool) : G2 := fun d e k => match inD nw d e with
  | some b => k (.bl (b != neg))
  | none => False
abbrev rInA (K : PySem.W.Frag) (neg : Bool) : R2 := fun x y H Q => (∃ (c : Nat) (z : Str), x = .str ⟨#[c]⟩ ∧ y = .str z ∧ Q (.bl (decide (c ∈ z.cps.toList) != neg)) H) ∨ rIn K neg x y H Q ∨ ∃ a o, y = .ref a ∧ DGet H a x o ∧ Q (.bl (o.isSome != neg)) H
section
variable {X : Cx}
theorem op_inA (hu : X.A.units + 1 < cLine) : OpR X (compareOp .In) (rInA X.K false) := by
  have h1 : OpR X (compareOp .In) (fun x y H Q => ∃ (c : Nat) (z : Str), x = .str ⟨#[c]⟩ ∧ y = .str z ∧ Q (.bl (decide (c ∈ z.cps.toList) != false)) H) := fun pins s σ H x y v u Q I rx ry ⟨c, z, h1, h2, q⟩ => op_in_sign pins s σ H x y v u Q I rx ry ⟨c, z, h1, h2, by simpa using q⟩
  refine h1.or (op_in_seq.or ?_)
  intro pins s σ H x y v u Q I rx ry ⟨a, o, h1, h2, q⟩
  subst h1
  cases ry
  exact d_in hu I h2 rx fun s3 I3 => ⟨.bl o.isSome, H, I3, rfl, by simpa using q⟩
theorem op_notInA (hu : X.A.units + 1 < cLine) : OpR X (compareOp .NotIn) (rInA X.K true) := by
  have h1 : OpR X (compareOp .NotIn) (fun x y H Q => ∃ (c : Nat) (z : Str), x = .str ⟨#[c]⟩ ∧ y = .str z ∧ Q (.bl (decide (c ∈ z.cps.toList) != true)) H) := fun pins s σ H x y v u Q I rx ry ⟨c, z, h1, h2, q⟩ => op_notIn_sign pins s σ H x y v u Q I rx ry ⟨c, z, h1, h2, by simpa using q⟩
  refine h1.or (op_notIn_seq.or ?_)
  intro pins s σ H x y v u Q I rx ry ⟨a, o, h1, h2, q⟩
  subst h1
  cases ry
  exact d_notIn hu I h2 rx fun s3 I3 => ⟨.bl (!o.isSome), H, I3, rfl, by simpa using q⟩
end
theorem real_in {nw neg : Bool} (hw : nw = true → W.nw = true) : RealB W (inG nw neg) (rInA W.K neg) := by
  intro F H v w d e k Q le hd he g kr
  have seq : ∀ {l : List D} {x : V} {xs : List V} {b : Addr}, flatD d = some x → flatsD l = some xs → w = .ref b → (SqL W.K H b xs ∨ SqT W.K H b xs) → k (.bl (inV x xs != neg)) → rInA W.K neg v w H Q := fun {l x xs b} h1 h2 h3 h4 q => by
    obtain ⟨e1, f1⟩ := flatD_ok h1 hd
    subst e1
    have f2 : xs.all flatV = true := by
      have aux : ∀ {l : List D} {xs : List V}, flatsD l = some xs → xs.all flatV = true := by
        intro l
        induction l with
        | nil => intro xs e; cases e; rfl
        | cons d ds ih =>
          intro xs e
          rw [flatsD] at e
          obtain ⟨k, h1, h2⟩ := Option.bind_eq_some_iff.mp e
          obtain ⟨qs, h3, h4⟩ := Option.map_eq_some_iff.mp h2
          subst h4
          have : flatV k = true := by cases d <;> simp [flatD] at h1 <;> subst h1 <;> rfl
          rw [List.all_cons, this, ih h3]; rfl
      exact aux h2
    refine .inr (.inl ⟨b, xs, h3, h4, f1, f2, kr.now le (.bl _) ?_⟩)
    cases neg <;> simpa using q
  unfold inG at g
  split at g
  case h_2 => exact g.elim
  rename_i b hb
  unfold inD at hb
  split at hb
  · rename_i x z
    cases hd; cases he
    split at hb
    · rename_i c hc
      cases hb
      exact .inl ⟨c, z, by congr 1; cases x; simp at hc; rw [← hc], rfl, kr.now le (.bl _) g⟩
    · cases hb
  · obtain ⟨a, xs, rfl, h1, r1⟩ := he
    split at hb
    · rename_i x xs' h2 h3
      cases hb
      obtain ⟨e1, _⟩ := flatsD_ok h3 r1
      subst e1
      exact seq h2 h3 rfl (.inl (SqL.of h1)) g
    · cases hb
  · obtain ⟨a, xs, rfl, _, h1, r1⟩ := he
    split at hb
    · rename_i x xs' h2 h3
      cases hb
      obtain ⟨e1, _⟩ := flatsD_ok h3 r1
      subst e1
      exact seq h2 h3 rfl (.inr h1) g
    · cases hb
  · obtain ⟨r, h1, h2⟩ := Option.map_eq_some_iff.mp hb
    obtain ⟨a, o, h3, h4, h5⟩ := getD_ok hw le h1 he hd
    refine .inr (.inr ⟨a, o, h3, h4, kr.now le (.bl _) ?_⟩)
    have : o.isSome = r.isSome := by
      rcases h5 with ⟨w, x, e1, e2, _⟩ | ⟨e1, e2⟩ <;> rw [e1, e2] <;> rfl
    rw [this, h2]
    exact g
end DL

set_option Elab.async false
set_option linter.all false
set_option maxRecDepth 100000
set_option maxHeartbeats 2000000
/-! DL: built-in functions, slices, texts, attributes, isinstance -/
namespace DL
open PySem L2 PySem.Spec PyProof.Rows
variable {W : Wd} {ba : Nat → Addr} {F F1 F' H H1 H' : Hp} {ρ ρ1 ρ' : Env} {σ σ' : L2.St}

/-! ### the order of texts -/
theorem lt_trans' : ∀ {a b c : List Nat}, ltCps a b = true → ltCps b c = true → ltCps a c = true
  | [], [], _, h, _ => by cases h
  | [], _ :: _, [], _, h => by cases h
  | [], _ :: _, _ :: _, _, _ => rfl
  | _ :: _, [], _, h, _ => by cases h
  | _ :: _, _ :: _, [], _, h => by cases h
  | x :: a, y :: b, z :: c, h, h' => by
    simp only [ltCps, Bool.or_eq_true, Bool.and_eq_true, decide_eq_true_eq, beq_iff_eq] at h h' ⊢
    rcases h with h | ⟨h, h1⟩ <;> rcases h' with h' | ⟨h', h2⟩
    · exact .inl (by omega)
    · exact .inl (by omega)
    · exact .inl (by omega)
    · exact .inr ⟨by omega, lt_trans' h1 h2⟩
theorem lt_tri : ∀ (a b : List Nat), ltCps a b = true ∨ a = b ∨ ltCps b a = true
  | [], [] => .inr (.inl rfl)
  | [], _ :: _ => .inl rfl
  | _ :: _, [] => .inr (.inr rfl)
  | x :: a, y :: b => by
    simp only [ltCps, Bool.or_eq_true, Bool.and_eq_true, decide_eq_true_eq, beq_iff_eq]
    rcases Nat.lt_trichotomy x y with h | h | h
    · exact .inl (.inl h)
    · subst h
      rcases lt_tri a b with h | h | h
      · exact .inl (.inr ⟨rfl, h⟩)
      · exact .inr (.inl (by rw [h]))
      · exact .inr (.inr (.inr ⟨rfl, h⟩))
    · exact .inr (.inr (.inl h))
theorem lt_irr : ∀ (a : List Nat), ltCps a a = false
  | [] => rfl
  | x :: a => by simp [ltCps, lt_irr a]
theorem lt_asym {a b : List Nat} (h : ltCps a b = true) : ltCps b a = false := by
  cases q : ltCps b a with
  | false => rfl
  | true =>
    have := lt_trans' h q
    rw [lt_irr] at this
    cases this
def leS (a b : Str) : Bool := !ltCps b.cps.toList a.cps.toList
theorem leS_trans (a b c : Str) (h : leS a b = true) (h' : leS b c = true) : leS a c = true := by
  unfold leS at *
  rw [Bool.not_eq_true'] at *
  cases q : ltCps c.cps.toList a.cps.toList with
  | false => rfl
  | true =>
    rcases lt_tri b.cps.toList a.cps.toList with z | z | z
    · rw [z] at h; cases h
    · rw [z] at h'; rw [h'] at q; cases q
    · rw [lt_trans' q z] at h'; cases h'
theorem leS_total (a b : Str) : (leS a b || leS b a) = true := by
  unfold leS
  cases q : ltCps b.cps.toList a.cps.toList with
  | false => rfl
  | true => rw [lt_asym q]; rfl
theorem str_ext {a b : Str} (h : a.cps.toList = b.cps.toList) : a = b := by
  cases a; cases b
  simp at h
  rw [h]
theorem leS_anti {a b : Str} (h : leS a b = true) (h' : leS b a = true) : a = b := by
  unfold leS at *
  rw [Bool.not_eq_true'] at *
  rcases lt_tri a.cps.toList b.cps.toList with z | z | z
  · rw [z] at h'; cases h'
  · exact str_ext z
  · rw [z] at h; cases h
def sortS (l : List Str) : List Str := l.mergeSort leS
theorem sortS_pw (l : List Str) : (sortS l).Pairwise fun a b => leS a b = true := List.pairwise_mergeSort leS_trans leS_total l
theorem sortS_perm (l : List Str) : (sortS l).Perm l := List.mergeSort_perm l leS
theorem rising_pw : ∀ {p : Str} {l : List Str}, risingS p l = true → (p :: l).Pairwise fun a b => leS a b = true
  | p, [], _ => List.pairwise_singleton _ _
  | p, x :: r, h => by
    rw [risingS, Bool.and_eq_true] at h
    have ih := rising_pw h.2
    refine List.pairwise_cons.mpr ⟨fun y hy => ?_, ih⟩
    rcases List.mem_cons.mp hy with e | hy
    · subst e; exact h.1
    · exact leS_trans p x y h.1 (List.rel_of_pairwise_cons ih hy)
theorem sortedS_pw {l : List Str} (h : sortedS l = true) : l.Pairwise fun a b => leS a b = true := by
  cases l with
  | nil => exact List.Pairwise.nil
  | cons x r => exact rising_pw h
theorem sortS_uniq {xs ys : List Str} (h : ys.Perm xs) (hs : sortedS ys = true) : ys = sortS xs :=
  List.Perm.eq_of_pairwise (fun a b _ _ h1 h2 => leS_anti h1 h2) (sortedS_pw hs) (sortS_pw xs) (h.trans (sortS_perm xs).symm)
def sortI (l : List Int) : List Int := l.mergeSort fun a b => decide (a ≤ b)
theorem sortI_uniq {xs ys : List Int} (h : ys.Perm xs) (hs : ys.Pairwise (· ≤ ·)) : ys = sortI xs := by
  refine List.Perm.eq_of_pairwise (le := fun a b => a ≤ b) (fun a b _ _ h1 h2 => Int.le_antisymm h1 h2) hs ?_ (h.trans (List.mergeSort_perm xs _).symm)
  have := List.pairwise_mergeSort (le := fun (a b : Int) => decide (a ≤ b)) (fun a b c h1 h2 => by simp at *; omega) (fun a b => by simp; omega) xs
  exact this.imp fun h => by simpa using h

/-! ### lists of one kind -/
def intsD : List D → Option (List Int)
  | [] => some []
  | .int i :: ds => (intsD ds).map fun r => i :: r
  | _ => none
def strsD : List D → Option (List Str)
  | [] => some []
  | .str x :: ds => (strsD ds).map fun r => x :: r
  | _ => none
def blsD : List D → Option (List Bool)
  | [] => some []
  | .bl b :: ds => (blsD ds).map fun r => b :: r
  | _ => none
theorem ints_map (l : List Int) : intsD (l.map .int) = some l := by
  induction l with
  | nil => rfl
  | cons a l ih => simp [intsD, ih]
theorem strs_map (l : List Str) : strsD (l.map .str) = some l := by
  induction l with
  | nil => rfl
  | cons a l ih => simp [strsD, ih]
theorem bls_map (l : List Bool) : blsD (l.map .bl) = some l := by
  induction l with
  | nil => rfl
  | cons a l ih => simp [blsD, ih]
theorem ints_ok : ∀ {ds : List D} {xs : List V} {l : List Int}, intsD ds = some l → RepL W F xs ds → xs = l.map V.int
  | [], _, l, e, .nil => by cases e; rfl
  | d :: ds, _, l, e, .cons a r => by
    cases d <;> simp [intsD] at e
    obtain ⟨q, h3, h4⟩ := e
    subst h4
    cases a
    rw [ints_ok h3 r]; rfl
theorem strs_ok : ∀ {ds : List D} {xs : List V} {l : List Str}, strsD ds = some l → RepL W F xs ds → xs = l.map V.str
  | [], _, l, e, .nil => by cases e; rfl
  | d :: ds, _, l, e, .cons a r => by
    cases d <;> simp [strsD] at e
    obtain ⟨q, h3, h4⟩ := e
    subst h4
    cases a
    rw [strs_ok h3 r]; rfl
theorem bls_ok : ∀ {ds : List D} {xs : List V} {l : List Bool}, blsD ds = some l → RepL W F xs ds → xs = l.map V.bl
  | [], _, l, e, .nil => by cases e; rfl
  | d :: ds, _, l, e, .cons a r => by
    cases d <;> simp [blsD] at e
    obtain ⟨q, h3, h4⟩ := e
    subst h4
    cases a
    rw [bls_ok h3 r]; rfl
theorem repL_ints : ∀ (l : List Int), RepL W F (l.map V.int) (l.map D.int)
  | [] => .nil
  | a :: l => .cons (.int a) (repL_ints l)
theorem repL_strs : ∀ (l : List Str), RepL W F (l.map V.str) (l.map D.str)
  | [] => .nil
  | a :: l => .cons (.str a) (repL_strs l)

/-! ### built-in functions -/
def dCallL (g : GL) (ts : WPA) : WPE := fun ρ Q => ts ρ fun xs ρ1 => lookL ρ1 xs fun ds => g ds fun r => Q (.imm r) ρ1
theorem callL_ok {g : GL} {r : List V → Hp → VK → Prop} {ts : WPA} {Q : VK} (hg : RealL W g r) (h : LE W (dCallL g ts) σ H Q) : tCB r (LA W ts) σ H Q := by
  obtain ⟨ba, F, ρ, Q', ok, h, k⟩ := h
  refine ⟨ba, F, ρ, _, ok, h, fun vs xs F1 ρ1 H1 ok1 s1 r1 h1 => ?_⟩
  obtain ⟨ds, hd, h3⟩ := lookL_ok ok1 r1 h1
  exact hg F1 H1 vs ds _ Q ok1.le hd h3 (kr_of ok1 (k.step s1))
section
variable {X : Cx} {x : Str} {p pos : Pos} {e : Expr} {es : List Expr} {ts : WPA} {id T : String} {r : List V → Hp → VK → Prop} {g : GL}
theorem le_callB (hc : CallR X (.builtin id) r) (hg' : RealL W g r) (hg : Gl X x) (hm : X.mg x = none) (hv : bootBuiltins x = some (.builtin id)) (ha : PA X (e :: es) (LA W ts)) (hn : x ≠ "__name__" := by decide) (hdb : (x == ("__debug__" : Str)) = false := by decide)
    (he : starEach (e :: es) X.env = (false, eval e X.env) :: starEach es X.env := by rfl) (hpl : (backTo pos (starEach es X.env)).any (·.1) = false := by rfl) : PE X (.Call (.Name x p) (e :: es) [] pos) (LE W (dCallL g ts)) :=
  (pe_callB hc hg hm hv ha hn hdb he hpl).imp fun σ H Q h => callL_ok hg' h
theorem le_callTy (hc : CallR X (.type T) r) (hg' : RealL W g r) (hg : Gl X x) (hm : X.mg x = none) (hv : bootBuiltins x = some (.type T)) (ha : PA X (e :: es) (LA W ts)) (hn : x ≠ "__name__" := by decide) (hdb : (x == ("__debug__" : Str)) = false := by decide)
    (he : starEach (e :: es) X.env = (false, eval e X.env) :: starEach es X.env := by rfl) (hpl : (backTo pos (starEach es X.env)).any (·.1) = false := by rfl) : PE X (.Call (.Name x p) (e :: es) [] pos) (LE W (dCallL g ts)) :=
  (pe_callTy hc hg hm hv ha hn hdb he hpl).imp fun σ H Q h => callL_ok hg' h
theorem CallR.or {f : Value} {r r' : List V → Hp → VK → Prop} (h : CallR X f r) (h' : CallR X f r') : CallR X f (fun xs H Q => r xs H Q ∨ r' xs H Q) := fun pins s σ H xs us Q I rx q =>
  q.elim (h pins s σ H xs us Q I rx) (h' pins s σ H xs us Q I rx)
end
def lenG : GL := fun ds k => match ds with
  | [.str x] => x.length ≤ sizeLine ∧ k (.int x.length)
  | [.lst l] => k (.int l.length)
  | [.tup l] => k (.int l.length)
  | [.dK l] => k (.int l.length)
  | [.scr l] => k (.int l.length)
  | _ => False
abbrev rLenA (K : PySem.W.Frag) : List V → Hp → VK → Prop := fun xs H Q => (∃ x n, xs = [x] ∧ LenV K x H n ∧ Q (.int n) H) ∨ ∃ a kvs, xs = [V.ref a] ∧ Rd H a (.dK kvs) ∧ Q (.int kvs.length) H
theorem cr_len {X : Cx} : CallR X (.builtin "len") (rLenA X.K) := by
  refine CallR.or call_len ?_
  intro pins s σ H xs us Q I r h
  obtain ⟨a, kvs, rfl, e, q⟩ := h
  obtain ⟨u, rfl, rx⟩ := vals1 r
  cases rx
  exact d_len I e fun t s' I' => ⟨.int _, H, I', ⟨_, rfl⟩, q⟩
theorem pr1 {R : V → D → Prop} {vs : List V} {d : D} (h : Paired R vs [d]) : ∃ v, vs = [v] ∧ R v d := by
  cases h with | cons a r => cases r; exact ⟨_, rfl, a⟩
theorem pr2 {R : V → D → Prop} {vs : List V} {d e : D} (h : Paired R vs [d, e]) : ∃ v w, vs = [v, w] ∧ R v d ∧ R w e := by
  cases h with | cons a r => cases r with | cons b r => cases r; exact ⟨_, _, rfl, a, b⟩
theorem real_len : RealL W lenG (rLenA W.K) := by
  intro F H vs ds k Q le hd g kr
  unfold lenG at g
  split at g
  · obtain ⟨v, rfl, h⟩ := pr1 hd; cases h
    exact .inl ⟨_, _, rfl, ⟨g.1, rfl⟩, kr.now le (.int _) g.2⟩
  · obtain ⟨v, rfl, h⟩ := pr1 hd; obtain ⟨a, xs, rfl, h1, r1⟩ := h
    exact .inl ⟨_, _, rfl, .inl ⟨xs, SqL.of h1, rfl⟩, kr.now le (.int _) (by rw [r1.length]; exact g)⟩
  · obtain ⟨v, rfl, h⟩ := pr1 hd; obtain ⟨a, xs, rfl, _, h1, r1⟩ := h
    exact .inl ⟨_, _, rfl, .inr ⟨xs, h1, rfl⟩, kr.now le (.int _) (by rw [r1.length]; exact g)⟩
  · obtain ⟨v, rfl, h⟩ := pr1 hd; obtain ⟨a, xs, rfl, h1, r1⟩ := h
    exact .inr ⟨a, xs, rfl, h1, kr.now le (.int _) (by rw [r1.length]; exact g)⟩
  · obtain ⟨v, rfl, h⟩ := pr1 hd; obtain ⟨a, rfl, h1⟩ := h
    exact .inl ⟨_, _, rfl, .inl ⟨_, h1, rfl⟩, kr.now le (.int _) (by rw [List.length_map]; exact g)⟩
  · exact g.elim
def intG : GL := fun ds k => match ds with
  | [.int i] => k (.int i)
  | [.bl b] => k (.int (if b then 1 else 0))
  | [.str x] => x.length ≤ 640 ∧ match PySem.intText? x with | some n => k (.int n) | none => False
  | _ => False
abbrev rIntA : List V → Hp → VK → Prop := fun xs H Q => ((∃ i, xs = [.int i] ∧ Q (.int i) H) ∨ ∃ k, xs = [.bl k] ∧ Q (.int (if k then 1 else 0)) H) ∨ ∃ a n, xs = [.str a] ∧ PySem.intText? a = some n ∧ a.length ≤ 640 ∧ Q (.int n) H
theorem cr_int {X : Cx} : CallR X (.type "int") rIntA := CallR.or call_int1 call_int_str
theorem real_intG : RealL W intG rIntA := by
  intro F H vs ds k Q le hd g kr
  unfold intG at g
  split at g
  · obtain ⟨v, rfl, h⟩ := pr1 hd; cases h
    exact .inl (.inl ⟨_, rfl, kr.now le (.int _) g⟩)
  · obtain ⟨v, rfl, h⟩ := pr1 hd; cases h
    exact .inl (.inr ⟨_, rfl, kr.now le (.int _) g⟩)
  · obtain ⟨v, rfl, h⟩ := pr1 hd; cases h
    obtain ⟨hz, g⟩ := g
    split at g
    · rename_i n hn
      exact .inr ⟨_, n, rfl, hn, hz, kr.now le (.int _) g⟩
    · exact g.elim
  · exact g.elim
def strG : GL := fun ds k => match ds with
  | [.int i] => i.natAbs.log2 < 1920 ∧ k (.str (toString i))
  | _ => False
theorem real_strG : RealL W strG (fun xs H Q => ∃ i, xs = [.int i] ∧ i.natAbs.log2 < 1920 ∧ Q (.str (toString i)) H) := by
  intro F H vs ds k Q le hd g kr
  unfold strG at g
  split at g
  · obtain ⟨v, rfl, h⟩ := pr1 hd; cases h
    exact ⟨_, rfl, g.1, kr.now le (.str _) g.2⟩
  · exact g.elim
def absG : GL := fun ds k => match ds with
  | [.int i] => k (.int (if i < 0 then -i else i))
  | _ => False
theorem real_absG : RealL W absG (fun xs H Q => ∃ i, xs = [.int i] ∧ Q (.int (if i < 0 then -i else i)) H) := by
  intro F H vs ds k Q le hd g kr
  unfold absG at g
  split at g
  · obtain ⟨v, rfl, h⟩ := pr1 hd; cases h
    exact ⟨_, rfl, kr.now le (.int _) g⟩
  · exact g.elim
/-- max, min of two intsD -/
def two (f : Int → Int → Int) : GL := fun ds k => match ds with
  | [.int i, .int j] => k (.int (f i j))
  | _ => False
theorem real_two {f : Int → Int → Int} : RealL W (two f) (fun xs H Q => ∃ i j, xs = [.int i, .int j] ∧ Q (.int (f i j)) H) := by
  intro F H vs ds k Q le hd g kr
  unfold two at g
  split at g
  · obtain ⟨v, w, rfl, h, h'⟩ := pr2 hd; cases h; cases h'
    exact ⟨_, _, rfl, kr.now le (.int _) g⟩
  · exact g.elim
abbrev maxG : GL := two fun i j => if j > i then j else i
abbrev minG : GL := two fun i j => if j < i then j else i
/-- list(x) -/
def listG : GL := fun ds k => match ds with
  | [.lst l] => k (.lst l)
  | [.tup l] => k (.lst l)
  | [.scr l] => k (.lst (l.map .int))
  | _ => False
theorem real_listG : RealL W listG (fun xs H Q => ∃ p ys, xs = [.ref p] ∧ (SqL W.K H p ys ∨ SqT W.K H p ys) ∧ ∀ l, H l = none → Q (.ref l) (upd H l (.lst ys))) := by
  intro F H vs ds k Q le hd g kr
  unfold listG at g
  split at g
  · obtain ⟨v, rfl, h⟩ := pr1 hd; obtain ⟨a, xs, rfl, h1, r1⟩ := h
    exact ⟨a, xs, rfl, .inl (SqL.of h1), kr.lst le r1 g⟩
  · obtain ⟨v, rfl, h⟩ := pr1 hd; obtain ⟨a, xs, rfl, _, h1, r1⟩ := h
    exact ⟨a, xs, rfl, .inr h1, kr.lst le r1 g⟩
  · obtain ⟨v, rfl, h⟩ := pr1 hd; obtain ⟨a, rfl, h1⟩ := h
    exact ⟨a, _, rfl, .inl h1, kr.lst le (repL_ints _) g⟩
  · exact g.elim
/-- tuple(x) -/
def tupleG : GL := fun ds k => match ds with
  | [.lst l] => k (.tup l)
  | [.tup l] => k (.tup l)
  | _ => False
theorem real_tupleG : RealL W tupleG (fun xs H Q => ∃ p ys, xs = [.ref p] ∧ ((SqL W.K H p ys ∧ ∀ l, H l = none → Q (.ref l) (upd H l (.tup ys))) ∨ (SqT W.K H p ys ∧ Q (.ref p) H))) := by
  intro F H vs ds k Q le hd g kr
  unfold tupleG at g
  split at g
  · obtain ⟨v, rfl, h⟩ := pr1 hd; obtain ⟨a, xs, rfl, h1, r1⟩ := h
    exact ⟨a, xs, rfl, .inl ⟨SqL.of h1, kr.tup le r1 g⟩⟩
  · obtain ⟨v, rfl, h⟩ := pr1 hd; obtain ⟨a, xs, rfl, h0, h1, r1⟩ := h
    exact ⟨a, xs, rfl, .inr ⟨h1, kr.now le (.tup h0 r1) g⟩⟩
  · exact g.elim
/-- sorted of intsD, of texts (a list, a dict's keys), below 64 -/
def sortedG : GL := fun ds k => match ds with
  | [.lst l] => l.length < 64 ∧ match strsD l with
    | some ss => k (.lst ((sortS ss).map .str))
    | none => match intsD l with
      | some ns => k (.lst ((sortI ns).map .int))
      | none => False
  | _ => False
abbrev rSortedA (K : PySem.W.Frag) : List V → Hp → VK → Prop := fun xs H Q => rSortedS K xs H Q ∨ rSorted K xs H Q
theorem cr_sortedA {X : Cx} : CallR X (.builtin "sorted") (rSortedA X.K) := CallR.or cr_sortedS cr_sorted
theorem real_sortedG : RealL W sortedG (rSortedA W.K) := by
  intro F H vs ds k Q le hd g kr
  unfold sortedG at g
  split at g
  · rename_i l
    obtain ⟨v, rfl, h⟩ := pr1 hd; obtain ⟨a, xs, rfl, h1, r1⟩ := h
    obtain ⟨hz, g⟩ := g
    split at g
    · rename_i ss hs
      have e := strs_ok hs r1
      subst e
      refine .inl ⟨a, ss, rfl, SqL.of h1, by have := r1.length; rw [List.length_map] at this; omega, fun ys p hp hs2 hn => ?_⟩
      have e := sortS_uniq hp hs2
      subst e
      exact kr.lst le (repL_strs _) g p hn
    · split at g
      · rename_i ns hs
        have e := ints_ok hs r1
        subst e
        refine .inr ⟨a, ns, rfl, SqL.of h1, by have := r1.length; rw [List.length_map] at this; omega, fun ys p hp hs2 hn => ?_⟩
        have e := sortI_uniq hp hs2
        subst e
        exact kr.lst le (repL_ints _) g p hn
      · exact g.elim
  · exact g.elim
/-- all(list of bools) -/
def allG : GL := fun ds k => match ds with
  | [.lst l] => match blsD l with
    | some bs => k (.bl (bs.all id))
    | none => False
  | _ => False
theorem real_allG : RealL W allG (rAll W.K) := by
  intro F H vs ds k Q le hd g kr
  unfold allG at g
  split at g
  · rename_i l
    obtain ⟨v, rfl, h⟩ := pr1 hd; obtain ⟨a, xs, rfl, h1, r1⟩ := h
    split at g
    · rename_i bs hb
      have e := bls_ok hb r1
      subst e
      exact ⟨a, bs, rfl, SqL.of h1, kr.now le (.bl _) g⟩
    · exact g.elim
  · exact g.elim

/-! ### slices -/
abbrev WPO := Env → (Option Int → Env → Prop) → Prop
def LO (W : Wd) (t : WPO) : TO := fun σ H Q => ∃ ba F ρ Q', Ok W ba F ρ σ H ∧ t ρ Q' ∧ ∀ o F' ρ' H', Ok W ba F' ρ' σ H' → Step F (Own ρ σ) H F' (Own ρ' σ) H' → Q' o ρ' → Q o H'
def dNo : WPO := fun ρ Q => Q none ρ
def dPart (t : WPE) : WPO := fun ρ Q => t ρ fun x ρ1 => match x with
  | .imm (.int i) => Q (some i) ρ1
  | _ => False
theorem _root_.L2.PO.imp {X : Cx} {e : Option Expr} {T T' : TO} (h : PO X e T) (f : ∀ σ H Q, T' σ H Q → T σ H Q) : PO X e T' := ⟨fun pins s σ H Q I t => h.run pins s σ H Q I (f σ H Q t)⟩
theorem lo_none {X : Cx} : PO X none (LO W dNo) := po_none.imp fun σ H Q ⟨ba, F, ρ, Q', ok, h, k⟩ => k none F ρ H ok (Step.refl _ _ _) h
theorem lo_some {X : Cx} {e : Expr} {t : WPE} (h : PE X e (LE W t)) : PO X (some e) (LO W (dPart t)) := (po_some h).imp fun σ H Q ⟨ba, F, ρ, Q', ok, h, k⟩ => by
  refine ⟨ba, F, ρ, _, ok, h, fun v x F1 ρ1 H1 ok1 s1 r1 h1 => ?_⟩
  split at h1
  · cases r1
    exact ⟨_, rfl, k _ F1 ρ1 H1 ok1 s1 h1⟩
  · exact h1.elim
def cutD (d : D) (lo hi : Option Int) : Option D := match d with
  | .str z => if z.length ≤ sizeLine then some (.str (cutS z lo hi)) else none
  | .lst l => some (.lst ((l.drop (HT.sIx l.length 0 lo)).take (HT.sIx l.length l.length hi - HT.sIx l.length 0 lo)))
  | .tup l => some (.tup ((l.drop (HT.sIx l.length 0 lo)).take (HT.sIx l.length l.length hi - HT.sIx l.length 0 lo)))
  | _ => none
def dSlice (te : WPE) (tl th : WPO) : WPE := fun ρ Q => te ρ fun x ρ1 => tl ρ1 fun lo ρ2 => th ρ2 fun hi ρ3 => look ρ3 x fun d => match cutD d lo hi with
  | some r => Q (.imm r) ρ3
  | none => False
abbrev rSlD (K : PySem.W.Frag) : V → Option Int → Option Int → Hp → VK → Prop := fun x lo hi H Q => rSlL K x lo hi H Q ∨ rSlA K x lo hi H Q ∨ rSlS x lo hi H Q
theorem le_slice {X : Cx} {e : Expr} {lo hi : Option Expr} {te : WPE} {tl th : WPO} {p2 pos : Pos} (hK : X.K = W.K) (he : PE X e (LE W te)) (hl : PO X lo (LO W tl)) (hu : PO X hi (LO W th)) : PE X (.Subscript e (.Slice lo hi none p2) pos) (LE W (dSlice te tl th)) :=
  (pe_slice (r := rSlD X.K) (SlR.or sl_list (SlR.or sl_tupA sl_str)) he hl hu).imp fun σ H Q ⟨ba, F, ρ, Q', ok, h, k⟩ => by
    refine ⟨ba, F, ρ, _, ok, h, fun v x F1 ρ1 H1 ok1 s1 r1 h1 => ?_⟩
    refine ⟨ba, F1, ρ1, _, ok1, h1, fun lo F2 ρ2 H2 ok2 s2 h2 => ?_⟩
    refine ⟨ba, F2, ρ2, _, ok2, h2, fun hi F3 ρ3 H3 ok3 s3 h3 => ?_⟩
    obtain ⟨d, hd, h4⟩ := look_ok ok3 (r1.mono (s2.f.trans s3.f)) h3
    have kr := kr_of ok3 (k.step (s1.trans (s2.trans s3)))
    have le := ok3.le
    rw [hK]
    split at h4
    · rename_i r hr
      unfold cutD at hr
      split at hr
      · split at hr
        · rename_i hz
          cases hr; cases hd
          exact .inr (.inr ⟨_, rfl, hz, kr.now le (.str _) h4⟩)
        · cases hr
      · cases hr
        obtain ⟨a, xs, rfl, e1, q1⟩ := hd
        refine .inl ⟨a, xs, rfl, SqL.of e1, ?_⟩
        have hn := q1.length
        have := kr.lst (xs := cutV xs lo hi) le (by unfold cutV; rw [hn]; exact (q1.drop _).take _) h4
        exact this
      · cases hr
        obtain ⟨a, xs, rfl, e0, e1, q1⟩ := hd
        have hn := q1.length
        refine .inr (.inl ⟨a, xs, rfl, e1, fun z => ?_, fun _ => ?_⟩)
        · rw [hn] at z
          rw [z.1, z.2] at h4
          simp only [List.drop_zero, Nat.sub_zero, List.take_length] at h4
          exact kr.now le (.tup e0 q1) h4
        · exact kr.tup (xs := cutV xs lo hi) le (by unfold cutV; rw [hn]; exact (q1.drop _).take _) h4
      · cases hr
    · exact h4.elim

/-! ### f-strings -/
def dFmt (te : WPE) : WPE := fun ρ Q => te ρ fun x ρ1 => look ρ1 x fun d => match d with
  | .str y => y.length ≤ sizeLine ∧ Q (.imm (.str y)) ρ1
  | .int i => i.natAbs.log2 < 1920 ∧ Q (.imm (.str (toString i))) ρ1
  | _ => False
theorem le_fmt {X : Cx} {e : Expr} {te : WPE} {pos : Pos} (he : PE X e (LE W te)) : PE X (.FormattedValue e (-1) none pos) (LE W (dFmt te)) := (pe_fmt he).imp fun σ H Q ⟨ba, F, ρ, Q', ok, h, k⟩ => by
  refine ⟨ba, F, ρ, _, ok, h, fun v x F1 ρ1 H1 ok1 s1 r1 h1 => ?_⟩
  obtain ⟨d, hd, h2⟩ := look_ok ok1 r1 h1
  split at h2
  · cases hd
    exact .inl ⟨_, rfl, h2.1, k _ (.imm (.str _)) F1 ρ1 H1 ok1 s1 (.str _) h2.2⟩
  · cases hd
    exact .inr ⟨_, rfl, h2.1, k _ (.imm (.str _)) F1 ρ1 H1 ok1 s1 (.str _) h2.2⟩
  · exact h2.elim
def dJs : List WPE → Str → WPE
  | [], acc => fun ρ Q => Q (.imm (.str acc)) ρ
  | t :: ts, acc => fun ρ Q => t ρ fun x ρ1 => match x with
    | .imm (.str y) => (acc ++ y).length ≤ sizeLine ∧ dJs ts (acc ++ y) ρ1 Q
    | _ => False
inductive LJ (W : Wd) (X : Cx) : List Expr → List WPE → Prop where
  | nil : LJ W X [] []
  | cons {e : Expr} {t : WPE} {es : List Expr} {ts : List WPE} (h : PE X e (LE W t)) (r : LJ W X es ts) : LJ W X (e :: es) (t :: ts)
theorem LJ.pj {X : Cx} {es : List Expr} {ts : List WPE} (h : LJ W X es ts) : PJ X es (ts.map (LE W)) := by
  induction h with
  | nil => exact .nil
  | cons h _ ih => exact .cons h ih
theorem js_ok {Q' : Val → Env → Prop} {Q : VK} : ∀ {ts : List WPE} {acc : Str} {F : Hp} {ρ : Env} {H : Hp}, Ok W ba F ρ σ H → dJs ts acc ρ Q' → Kont W ba F ρ σ H Q' Q → tJs (ts.map (LE W)) acc σ H fun out H1 => Q (.str out) H1
  | [], acc, F, ρ, H, ok, h, k => k _ (.imm (.str acc)) F ρ H ok (Step.refl _ _ _) (.str acc) h
  | t :: ts, acc, F, ρ, H, ok, h, k => by
    refine ⟨ba, F, ρ, _, ok, h, fun v x F1 ρ1 H1 ok1 s1 r1 h1 => ?_⟩
    split at h1
    · cases r1
      exact ⟨_, rfl, h1.1, js_ok ok1 h1.2 (k.step s1)⟩
    · exact h1.elim
theorem le_joined {X : Cx} {v1 v2 : Expr} {rest : List Expr} {ts : List WPE} {pos : Pos} (h : LJ W X (v1 :: v2 :: rest) ts) : PE X (.JoinedStr (v1 :: v2 :: rest) pos) (LE W (dJs ts Str.empty)) :=
  (pe_joined h.pj).imp fun σ H Q ⟨ba, F, ρ, Q', ok, h, k⟩ => js_ok ok h k
theorem le_joined1 {X : Cx} {e : Expr} {te : WPE} {pos : Pos} (he : PE X e (LE W te)) : PE X (.JoinedStr [e] pos) (LE W te) := pe_joined1 he

/-! ### methods of texts (and of lists and dicts that only read) -/
abbrev GM := D → List D → (D → Prop) → Prop
def RealM (W : Wd) (g : GM) (r : V → List V → Hp → VK → Prop) : Prop := ∀ F H v vs d ds k Q, LeR F H → RH W F H v d → Paired (RH W F H) vs ds → g d ds k → KR W F H k Q → r v vs H Q
/-- the receiver is of the type -/
def isTy (T : String) : D → Prop
  | .str _ => T = "str"
  | .lst _ => T = "list"
  | .scr _ => T = "list"
  | _ => False
theorem isTy_ok {T : String} {v : V} {d : D} (h : isTy T d) (hd : RH W F H v d) : tyV W.K T v H := by
  cases d <;> first | exact h.elim | skip
  · cases hd; exact h
  · obtain ⟨a, xs, rfl, h1, _⟩ := hd; exact .inl ⟨h, xs, SqL.of h1⟩
  · obtain ⟨a, rfl, h1⟩ := hd; exact .inl ⟨h, _, h1⟩
def dMeth (T : String) (g : GM) (to : WPE) (ts : WPA) : WPE := fun ρ Q => to ρ fun x ρ1 => look ρ1 x fun d => isTy T d ∧ ts ρ1 fun xs ρ2 => look ρ2 x fun d => lookL ρ2 xs fun ds => g d ds fun r => Q (.imm r) ρ2
theorem le_bm {X : Cx} {o e : Expr} {es : List Expr} {to : WPE} {ts : WPA} {name : Str} {apos cpos : Pos} {T id : String} {r : V → List V → Hp → VK → Prop} {g : GM} (hK : X.K = W.K) (pa : PlainAttrs T) (slot : Slot T name id) (hty : typeOf (.builtin id) = pure (.type "method_descriptor")) (hm : MtR X id r) (hg : RealM W g r)
    (ho : PE X o (LE W to)) (ha : PA X (e :: es) (LA W ts)) (hbase : attributeBase o name X.env (eval o X.env) = eval o X.env := by rfl)
    (hfew : ((backTo cpos (starEach (e :: es) X.env)).all (fun x => !x.1) && (backToKw cpos (keywordEach [] X.env)).all (fun x => x.1.isSome)
      && decide ((e :: es).length + ([] : List Keyword).length + (if ([] : List Keyword).isEmpty then 0 else 1) < 30)) = true := by rfl)
    (hline : (apos.endLine == cpos.line) = true := by rfl) (hs : starEach (e :: es) X.env = (false, eval e X.env) :: starEach es X.env := by rfl) (hplain : (backTo cpos (starEach es X.env)).any (·.1) = false := by rfl) :
    PE X (.Call (.Attribute o name apos) (e :: es) [] cpos) (LE W (dMeth T g to ts)) := (pe_bm pa slot hty hm ho ha hbase hfew hline hs hplain).imp fun σ H Q ⟨ba, F, ρ, Q', ok, h, k⟩ => by
  refine ⟨ba, F, ρ, _, ok, h, fun v x F1 ρ1 H1 ok1 s1 r1 h1 => ?_⟩
  obtain ⟨d, hd, h2, h3⟩ := look_ok ok1 r1 h1
  refine ⟨by rw [hK]; exact isTy_ok h2 hd, ?_⟩
  refine ⟨ba, F1, ρ1, _, ok1, h3, fun vs xs F2 ρ2 H2 ok2 s2 r2 h4 => ?_⟩
  obtain ⟨d', hd', h5⟩ := look_ok ok2 (r1.mono s2.f) h4
  obtain ⟨ds, hds, h6⟩ := lookL_ok ok2 r2 h5
  exact hg F2 H2 v vs d' ds _ Q ok2.le hd' hds h6 (kr_of ok2 (k.step (s1.trans s2)))
def joinG : GM := fun d ds k => match d, ds with
  | .str a, [.lst l] => match strsD l with
    | some ys => (ys.map (·.length)).sum + ys.length * a.length ≤ 16777216 ∧ k (.str (Txt.join a ys))
    | none => False
  | _, _ => False
theorem real_joinG : RealM W joinG (fun x xs H Q => ∃ a p, ∃ ys : List Str, x = .str a ∧ xs = [.ref p] ∧ (SqL W.K H p (ys.map V.str) ∨ SqT W.K H p (ys.map V.str)) ∧
    (ys.map (·.length)).sum + ys.length * a.length ≤ 16777216 ∧ Q (.str (Txt.join a ys)) H) := by
  intro F H v vs d ds k Q le hd hds g kr
  unfold joinG at g
  split at g
  · split at g
    · rename_i ys hy
      cases hd
      obtain ⟨w, rfl, h⟩ := pr1 hds; obtain ⟨p, xs, rfl, h1, r1⟩ := h
      have e := strs_ok hy r1
      subst e
      exact ⟨_, p, ys, rfl, rfl, .inl (SqL.of h1), g.1, kr.now le (.str _) g.2⟩
    · exact g.elim
  · exact g.elim
def splitG : GM := fun d ds k => match d, ds with
  | .str a, [.str b] => (b.length == 0) = false ∧ a.length + 2 ≤ sizeLine ∧ k (.lst ((Txt.split a b).map .str))
  | _, _ => False
theorem real_splitG : RealM W splitG (fun x xs H Q => ∃ a b, x = .str a ∧ xs = [.str b] ∧ (b.length == 0) = false ∧ a.length + 2 ≤ sizeLine ∧ rNewStrs (Txt.split a b) H Q) := by
  intro F H v vs d ds k Q le hd hds g kr
  unfold splitG at g
  split at g
  · cases hd
    obtain ⟨w, rfl, h⟩ := pr1 hds; cases h
    exact ⟨_, _, rfl, rfl, g.1, g.2.1, kr.lst le (repL_strs _) g.2.2⟩
  · exact g.elim
def partitionG : GM := fun d ds k => match d, ds with
  | .str a, [.str b] => (b.length == 0) = false ∧ a.length ≤ sizeLine ∧ k (.tup [.str (Txt.partition a b).1, .str (Txt.partition a b).2.1, .str (Txt.partition a b).2.2])
  | _, _ => False
theorem real_partitionG : RealM W partitionG (fun x xs H Q => ∃ a b, x = .str a ∧ xs = [.str b] ∧ (b.length == 0) = false ∧ a.length ≤ sizeLine ∧
    ∀ p, H p = none → Q (.ref p) (upd H p (.tup [.str (Txt.partition a b).1, .str (Txt.partition a b).2.1, .str (Txt.partition a b).2.2]))) := by
  intro F H v vs d ds k Q le hd hds g kr
  unfold partitionG at g
  split at g
  · cases hd
    obtain ⟨w, rfl, h⟩ := pr1 hds; cases h
    exact ⟨_, _, rfl, rfl, g.1, g.2.1, kr.tup le (.cons (.str _) (.cons (.str _) (.cons (.str _) .nil))) g.2.2⟩
  · exact g.elim
def startsG : GM := fun d ds k => match d, ds with
  | .str a, [.str b] => k (.bl (Txt.startswith a b))
  | _, _ => False
theorem real_startsG : RealM W startsG (fun x xs H Q => ∃ a b, x = .str a ∧ xs = [.str b] ∧ Q (.bl (Txt.startswith a b)) H) := by
  intro F H v vs d ds k Q le hd hds g kr
  unfold startsG at g
  split at g
  · cases hd
    obtain ⟨w, rfl, h⟩ := pr1 hds; cases h
    exact ⟨_, _, rfl, rfl, kr.now le (.bl _) g⟩
  · exact g.elim

/-! ### o.f of an instance of the c-th class -/
def dFld (c : Nat) (f : Str) (te : WPE) : WPE := fun ρ Q => te ρ fun x ρ1 => look ρ1 x fun d => match d with
  | .ins c' fs => c' = c ∧ match fs.lookup f with
    | some d => Q (.imm d) ρ1
    | none => False
  | _ => False
theorem le_fld {X : Cx} {e : Expr} {f : Str} {pos : Pos} {te : WPE} {c : Nat} (hK : X.K = W.K) (hc : Cls W.K (W.cls c)) (hn : NoAttr W.K (W.cls c) f) (he : PE X e (LE W te)) (hb : attributeBase e f X.env (eval e X.env) = eval e X.env := by rfl) : PE X (.Attribute e f pos) (LE W (dFld c f te)) :=
  (pe_fld he hb).imp fun σ H Q ⟨ba, F, ρ, Q', ok, h, k⟩ => by
    refine ⟨ba, F, ρ, _, ok, h, fun v x F1 ρ1 H1 ok1 s1 r1 h1 => ?_⟩
    obtain ⟨d, hd, h2⟩ := look_ok ok1 r1 h1
    split at h2
    · obtain ⟨e1, h2⟩ := h2
      subst e1
      split at h2
      · rename_i fs d hf
        obtain ⟨a, dx, xs, rfl, e1, r2⟩ := hd
        obtain ⟨w, hw, hr⟩ := r2.val f hf
        exact ⟨a, _, dx, xs, w, rfl, e1, by rw [hK]; exact hc, by rw [hK]; exact hn, hw, k w (.imm d) F1 ρ1 H1 ok1 s1 hr h2⟩
      · exact h2.elim
    · exact h2.elim

/-! ### isinstance -/
inductive Ty where
  | int | bool | str | tuple | list | dict
def Ty.name : Ty → String
  | .int => "int" | .bool => "bool" | .str => "str" | .tuple => "tuple" | .list => "list" | .dict => "dict"
def isD (T : Ty) (d : D) : Option Bool := match d with
  | .non => some false
  | .bl _ => some (match T with | .int => true | .bool => true | _ => false)
  | .int _ => some (match T with | .int => true | _ => false)
  | .str _ => some (match T with | .str => true | _ => false)
  | .tup _ => some (match T with | .tuple => true | _ => false)
  | .lst _ => some (match T with | .list => true | _ => false)
  | .scr _ => none
  | .dK _ => some (match T with | .dict => true | _ => false)
  | .dT _ => none
  | .ins _ _ => none
def isAny (Ts : List Ty) (d : D) : Option Bool := match Ts with
  | [] => some false
  | T :: Ts => (isD T d).bind fun b => if b = true then some true else isAny Ts d
def isiG (T : Ty) : G1 := fun d k => match isD T d with
  | some b => k (.bl b)
  | none => False
theorem kit_none (T : Ty) : kitB "NoneType" T.name = some false := by cases T <;> decide +kernel
theorem kit_bl (T : Ty) : kitB "bool" T.name = some (match T with | .int => true | .bool => true | _ => false) := by cases T <;> decide +kernel
theorem kit_int (T : Ty) : kitB "int" T.name = some (match T with | .int => true | _ => false) := by cases T <;> decide +kernel
theorem kit_str (T : Ty) : kitB "str" T.name = some (match T with | .str => true | _ => false) := by cases T <;> decide +kernel
theorem kit_tup (T : Ty) : kitB "tuple" T.name = some (match T with | .tuple => true | _ => false) := by cases T <;> decide +kernel
theorem kit_lst (T : Ty) : kitB "list" T.name = some (match T with | .list => true | _ => false) := by cases T <;> decide +kernel
theorem kit_dic (T : Ty) : kitB "dict" T.name = some (match T with | .dict => true | _ => false) := by cases T <;> decide +kernel
theorem tyx {T : Ty} {d : D} {b : Bool} {v : V} (h : isD T d = some b) (hd : RH W F H v d) : ∃ t, TyX W.K H v t ∧ PySem.W.kitOne W.K t (.type T.name) = some b := by
  cases d with
  | non => cases hd; cases h; exact ⟨_, .base .non, kit_ty (kit_none T)⟩
  | bl x => cases hd; cases h; exact ⟨_, .base (.bl x), kit_ty (kit_bl T)⟩
  | int x => cases hd; cases h; exact ⟨_, .base (.int x), kit_ty (kit_int T)⟩
  | str x => cases hd; cases h; exact ⟨_, .base (.str x), kit_ty (kit_str T)⟩
  | tup l =>
    obtain ⟨a, xs, rfl, h0, h1, _⟩ := hd; cases h
    rcases h1 with (h1 | ⟨o, h1⟩) | ⟨o, its, n, h1, h2, _⟩
    · exact ⟨_, .base (.tup h1), kit_ty (kit_tup T)⟩
    · exact ⟨_, .fTuple h1, kit_ty (kit_tup T)⟩
    · exact ⟨_, .kTuple h1 h2, kit_ty (kit_tup T)⟩
  | lst l => obtain ⟨a, xs, rfl, h1, _⟩ := hd; cases h; exact ⟨_, .base (.lst h1), kit_ty (kit_lst T)⟩
  | dK l =>
    obtain ⟨a, xs, rfl, h1, _⟩ := hd; cases h
    rcases h1 with h1 | ⟨o, h1⟩
    · exact ⟨_, .base (.dK h1), kit_ty (kit_dic T)⟩
    · exact ⟨_, .fDict h1, kit_ty (kit_dic T)⟩
  | dT l => cases h
  | ins c l => cases h
  | scr l => cases h
theorem isi_ok {T : Ty} {te : WPE} {Q : VK} {K : PySem.W.Frag} (hK : K = W.K) (h : LE W (dUn (isiG T) te) σ H Q) : tCB (rIsi K) (tCons (LE W te) (tCons (tC (.ty T.name)) tNil)) σ H Q := by
  obtain ⟨ba, F, ρ, Q', ok, h, k⟩ := h
  refine ⟨ba, F, ρ, _, ok, h, fun v x F1 ρ1 H1 ok1 s1 r1 h1 => ?_⟩
  obtain ⟨d, hd, h3⟩ := look_ok ok1 r1 h1
  unfold isiG at h3
  split at h3
  · rename_i b hb
    obtain ⟨t, h4, h5⟩ := tyx hb hd
    exact ⟨v, _, t, _, b, rfl, .ty _, by rw [hK]; exact h4, by rw [hK]; exact h5, k _ (.imm (.bl b)) F1 ρ1 H1 ok1 s1 (.bl b) h3⟩
  · exact h3.elim
theorem le_isi {X : Cx} {e : Expr} {te : WPE} {T : Ty} {p p1 pos : Pos} (hK : X.K = W.K) (hg : Gl X "isinstance") (hm : X.mg "isinstance" = none) (hv : bootBuiltins "isinstance" = some (.builtin "isinstance")) (hx : PE X e (LE W te)) {x : Str}
    (ht : PE X (.Name x p1) (tC (.ty T.name))) (he : starEach (e :: [.Name x p1]) X.env = (false, eval e X.env) :: starEach [.Name x p1] X.env := by rfl) (he2 : starEach [.Name x p1] X.env = (false, eval (.Name x p1) X.env) :: starEach [] X.env := by rfl) (hpl : (backTo pos (starEach [.Name x p1] X.env)).any (·.1) = false := by rfl) :
    PE X (.Call (.Name "isinstance" p) [e, .Name x p1] [] pos) (LE W (dUn (isiG T) te)) :=
  (pe_callB call_isi hg hm hv (pa_cons hx (pa_cons ht pa_nil he2) he) (by decide) (by decide) he hpl).imp fun σ H Q h => isi_ok hK h
end DL

set_option Elab.async false
set_option linter.all false
set_option maxRecDepth 100000
set_option maxHeartbeats 2000000
/-! DL: targets, statements, loops -/
namespace DL
open PySem L2 PySem.Spec PyProof.Rows
variable {W : Wd} {ba : Nat → Addr} {F F1 F' H H1 H' : Hp} {ρ ρ1 ρ' : Env} {σ σ' : L2.St}

/-! ### a thing is changed where it stands -/
def SV.put (s : SV) (c : Cell) : SV := match s with
  | .imm d => .imm d
  | .own _ => .own c
  | .brw j _ => .brw j c
theorem Own.set {i : Nat} {s s' : SV} {a : Addr} (hi : ρ[i]? = some (some s)) (hs : s'.hot → s.hot) (h : Own (ρ.set i (some s')) σ a) : Own ρ σ a := by
  obtain ⟨j, q, h1, h2, h3⟩ := h
  rcases get_set _ _ _ _ h1 with ⟨e1, e2⟩ | ⟨_, h1'⟩
  · subst e1; cases e2; exact ⟨j, s, hi, hs h2, h3⟩
  · exact ⟨j, q, h1', h2, h3⟩
theorem Ok.mutate (ok : Ok W ba F ρ σ H) {i : Nat} {s : SV} {b : Addr} {c' : Cell} (hi : ρ[i]? = some (some s)) (hs : s.hot) (hb : σ[i]? = some (some (.ref b))) (le : LeR F' H') (st : Step F (fun a => a = b) H F' (fun a => a = b) H') (hc : CellOk W F' H' b c') :
    Ok W ba F' (ρ.set i (some (s.put c'))) σ H' ∧ Step F (Own ρ σ) H F' (Own (ρ.set i (some (s.put c'))) σ) H' := by
  have hot' : (s.put c').hot := by cases s <;> first | exact hs.elim | exact True.intro
  refine ⟨⟨by rw [List.length_set]; exact ok.len, le, fun j q hj => ?_, fun j k q q' a hj hk z z' e1 e2 => ?_⟩, ⟨st.f, fun a o e n => st.h a o e fun z => n ?_, fun a o e n => (st.nf a o e n).imp id (Or.imp (fun z => ?_) id), fun a h => .inl (Own.set hi (fun _ => hs) h)⟩⟩
  · rcases get_set _ _ _ _ hj with ⟨e1, e2⟩ | ⟨e1, e2⟩
    · subst e1; cases e2
      refine ⟨_, hb, ?_⟩
      obtain ⟨w, h3, h4⟩ := ok.slots j s hi
      rw [hb] at h3; cases h3
      cases s with
      | imm d => exact hs.elim
      | own c => exact ⟨b, rfl, hc⟩
      | brw m c => obtain ⟨e, _⟩ := h4; cases e; exact ⟨rfl, hc⟩
    · obtain ⟨w, h3, h4⟩ := ok.slots j q e2
      refine ⟨w, h3, ?_⟩
      have stay : ∀ {a c}, w = .ref a → q.hot → CellOk W F H a c → CellOk W F' H' a c := fun {a c} ea hq hc => by
        have nb : a ≠ b := fun z => e1 (ok.inj j i q s b e2 hi hq hs (by rw [h3, ea, z]) hb)
        refine hc.stay st.f ?_ fun o e => st.h a o e nb
        cases q2 : F' a with
        | none => rfl
        | some o =>
          obtain ⟨u, e⟩ := hc.there
          rcases st.nf a o q2 hc.free with z | z | ⟨z, xs, y⟩
          · rw [e] at z; cases z
          · exact (nb z).elim
          · subst y; exact (hc.notTup z).elim
      cases q with
      | imm d => exact Rep.mono st.f h4
      | own c => obtain ⟨a, ea, h⟩ := h4; exact ⟨a, ea, stay ea True.intro h⟩
      | brw m c => obtain ⟨ea, h⟩ := h4; exact ⟨ea, stay ea True.intro h⟩
  · have back : ∀ {j : Nat} {q : SV}, (ρ.set i (some (s.put c')))[j]? = some (some q) → q.hot → ∃ q', ρ[j]? = some (some q') ∧ q'.hot := fun {j q} hj hq => by
      rcases get_set _ _ _ _ hj with ⟨e1, e2⟩ | ⟨_, h⟩
      · subst e1; exact ⟨s, hi, hs⟩
      · exact ⟨q, h, hq⟩
    obtain ⟨r, h1, h2⟩ := back hj z
    obtain ⟨r', h1', h2'⟩ := back hk z'
    exact ok.inj j k r r' a h1 h1' h2 h2' e1 e2
  · subst z; exact ⟨i, s, hi, hs, hb⟩
  · subst z; exact ⟨i, s, hi, hs, hb⟩
/-- .. by a write -/
theorem Ok.write (ok : Ok W ba F ρ σ H) {i : Nat} {s : SV} {b : Addr} {o : HO} {c' : Cell} (hi : ρ[i]? = some (some s)) (hs : s.hot) (hb : σ[i]? = some (some (.ref b))) (hc : ∀ H', H' b = some o → CellOk W F H' b c') :
    Ok W ba F (ρ.set i (some (s.put c'))) σ (upd H b o) ∧ Step F (Own ρ σ) H F (Own (ρ.set i (some (s.put c'))) σ) (upd H b o) := by
  have hF := (ok.own_free ⟨i, s, hi, hs, hb⟩).1
  refine ok.mutate hi hs hb (fun a u e => ?_) ⟨LeF.refl F, fun a u e n => ?_, fun a u e n => ?_, fun a z => .inl z⟩ (hc _ upd_same)
  · have : a ≠ b := ne_of_none e hF
    rw [upd_ne this]; exact ok.le a u e
  · rw [upd_ne n]; exact e
  · rw [n] at e; cases e

/-! ### targets -/
abbrev WPG := Val → Env → (Env → Prop) → Prop
abbrev WPGs := List D → Env → (Env → Prop) → Prop
def LG (W : Wd) (t : WPG) : TG := fun v σ H Q => ∃ ba F ρ x Q', Ok W ba F ρ σ H ∧ VR W F σ v x ∧ t x ρ Q' ∧ ∀ F' ρ' σ' H', Ok W ba F' ρ' σ' H' → Step F (Own ρ σ) H F' (Own ρ' σ') H' → Q' ρ' → Q σ' H'
def LGs (W : Wd) (t : WPGs) : TGs := fun vs σ H Q => ∃ ba F ρ ds Q', Ok W ba F ρ σ H ∧ RepL W F vs ds ∧ t ds ρ Q' ∧ ∀ F' ρ' σ' H', Ok W ba F' ρ' σ' H' → Step F (Own ρ σ) H F' (Own ρ' σ') H' → Q' ρ' → Q σ' H'
theorem _root_.L2.PG.imp {X : Cx} {e : Expr} {T T' : TG} (h : PG X e T) (f : ∀ v σ H Q, T' v σ H Q → T v σ H Q) : PG X e T' := ⟨fun pins s σ H v u Q I r t => h.run pins s σ H v u Q I r (f v σ H Q t)⟩
theorem _root_.L2.PGs.imp {X : Cx} {es : List Expr} {T T' : TGs} (h : PGs X es T) (f : ∀ v σ H Q, T' v σ H Q → T v σ H Q) : PGs X es T' := ⟨fun pins s σ H v u Q I r t => h.run pins s σ H v u Q I r (f v σ H Q t)⟩
def dSet (i : Nat) : WPG := fun x ρ Q => frz x ρ fun d ρ1 => Q (ρ1.set i (some (.imm d)))
theorem Ok.setImm (ok : Ok W ba F ρ σ H) (i : Nat) {v : V} {d : D} (hr : Rep W F v d) : Ok W ba F (ρ.set i (some (.imm d))) (σ.set i (some v)) H ∧ Step F (Own ρ σ) H F (Own (ρ.set i (some (.imm d))) (σ.set i (some v))) H := by
  have slot : ∀ {j : Nat} {s : SV}, (ρ.set i (some (.imm d)))[j]? = some (some s) → (j = i ∧ s = .imm d) ∨ (j ≠ i ∧ ρ[j]? = some (some s)) := fun {j s} h => by
    rcases get_set _ _ _ _ h with ⟨e1, e2⟩ | ⟨e1, e2⟩
    · cases e2; exact .inl ⟨e1, rfl⟩
    · exact .inr ⟨e1, e2⟩
  have sg : ∀ {j : Nat}, j ≠ i → (σ.set i (some v))[j]? = σ[j]? := fun {j} h => List.getElem?_set_ne (Ne.symm h)
  refine ⟨⟨by rw [List.length_set, List.length_set]; exact ok.len, ok.le, fun j s hj => ?_, fun j k s s' a hj hk z z' e1 e2 => ?_⟩, ⟨LeF.refl F, fun _ _ h _ => h, fun a o e n => (by rw [n] at e; cases e), fun a ⟨j, s, hj, z, e⟩ => ?_⟩⟩
  · rcases slot hj with ⟨e1, e2⟩ | ⟨e1, e2⟩
    · subst e1 e2
      have hl : j < σ.length := by
        rw [← ok.len]
        rcases Nat.lt_or_ge j ρ.length with h | h
        · exact h
        · rw [List.getElem?_eq_none (by rw [List.length_set]; exact h)] at hj; cases hj
      exact ⟨v, List.getElem?_set_self hl, hr⟩
    · obtain ⟨w, h1, h2⟩ := ok.slots j s e2
      exact ⟨w, by rw [sg e1]; exact h1, h2⟩
  · rcases slot hj with ⟨e3, e4⟩ | ⟨e3, e4⟩
    · subst e4; exact z.elim
    · rcases slot hk with ⟨e5, e6⟩ | ⟨e5, e6⟩
      · subst e6; exact z'.elim
      · rw [sg e3] at e1; rw [sg e5] at e2
        exact ok.inj j k s s' a e4 e6 z z' e1 e2
  · rcases slot hj with ⟨e3, e4⟩ | ⟨e3, e4⟩
    · subst e4; exact z.elim
    · rw [sg e3] at e
      exact .inl ⟨j, s, e4, z, e⟩
/-- a new thing comes into a slot -/
theorem Ok.setOwn {F0 : Hp} {O0 : Addr → Prop} {H0 : Hp} (ok : Ok W ba F ρ σ H) (i : Nat) {a : Addr} {c : Cell} (hc : CellOk W F H a c) (hn : ¬ Own ρ σ a) (st : Step F0 O0 H0 F (fun b => Own ρ σ b ∨ b = a) H) :
    Ok W ba F (ρ.set i (some (.own c))) (σ.set i (some (.ref a))) H ∧ Step F0 O0 H0 F (Own (ρ.set i (some (.own c))) (σ.set i (some (.ref a)))) H := by
  have slot : ∀ {j : Nat} {s : SV}, (ρ.set i (some (.own c)))[j]? = some (some s) → (j = i ∧ s = .own c) ∨ (j ≠ i ∧ ρ[j]? = some (some s)) := fun {j s} h => by
    rcases get_set _ _ _ _ h with ⟨e1, e2⟩ | ⟨e1, e2⟩
    · cases e2; exact .inl ⟨e1, rfl⟩
    · exact .inr ⟨e1, e2⟩
  have sg : ∀ {j : Nat}, j ≠ i → (σ.set i (some (.ref a)))[j]? = σ[j]? := fun {j} h => List.getElem?_set_ne (Ne.symm h)
  have si : ∀ {s : SV}, (ρ.set i (some (.own c)))[i]? = some (some s) → (σ.set i (some (.ref a)))[i]? = some (some (V.ref a)) := fun {s} h => by
    have hl : i < σ.length := by
      rw [← ok.len]
      rcases Nat.lt_or_ge i ρ.length with h' | h'
      · exact h'
      · rw [List.getElem?_eq_none (by rw [List.length_set]; exact h')] at h; cases h
    exact List.getElem?_set_self hl
  refine ⟨⟨by rw [List.length_set, List.length_set]; exact ok.len, ok.le, fun j s hj => ?_, fun j k s s' b hj hk z z' e1 e2 => ?_⟩, ⟨st.f, st.h, st.nf, fun b ⟨j, s, hj, z, e⟩ => ?_⟩⟩
  · rcases slot hj with ⟨e1, e2⟩ | ⟨e1, e2⟩
    · subst e1 e2
      exact ⟨_, si hj, a, rfl, hc⟩
    · obtain ⟨w, h1, h2⟩ := ok.slots j s e2
      exact ⟨w, by rw [sg e1]; exact h1, h2⟩
  · rcases slot hj with ⟨e3, e4⟩ | ⟨e3, e4⟩
    · rcases slot hk with ⟨e5, e6⟩ | ⟨e5, e6⟩
      · rw [e3, e5]
      · subst e3
        rw [si hj] at e1
        rw [sg e5] at e2
        cases e1
        exact (hn ⟨k, s', e6, z', e2⟩).elim
    · rcases slot hk with ⟨e5, e6⟩ | ⟨e5, e6⟩
      · subst e5
        rw [si hk] at e2
        rw [sg e3] at e1
        cases e2
        exact (hn ⟨j, s, e4, z, e1⟩).elim
      · rw [sg e3] at e1; rw [sg e5] at e2
        exact ok.inj j k s s' b e4 e6 z z' e1 e2
  · rcases slot hj with ⟨e3, e4⟩ | ⟨e3, e4⟩
    · subst e3
      rw [si hj] at e
      cases e
      exact st.no a (.inr rfl)
    · rw [sg e3] at e
      exact st.no b (.inl ⟨j, s, e4, z, e⟩)
def dGNil : WPGs := fun ds ρ Q => ds = [] ∧ Q ρ
def dGCons (t : WPG) (u : WPGs) : WPGs := fun ds ρ Q => match ds with
  | [] => False
  | d :: r => t (.imm d) ρ fun ρ1 => u r ρ1 Q
def dTupT (n : Nat) (u : WPGs) : WPG := fun x ρ Q => look ρ x fun d => match d with
  | .tup l => l.length = n ∧ u l ρ Q
  | _ => False
section
variable {X : Cx} {pos : Pos}
theorem lg_name {i : Nat} {x : Str} (hN : X.N.Nodup) (hi : X.N[i]? = some x) (hx : Loc X.env.scope x) (hf : X.fn x = true ∨ X.env.scope.names.lookup x = some .local := by first | exact .inl rfl | exact .inr rfl | assumption) : PG X (.Name x pos) (LG W (dSet i)) :=
  (pg_name hN hi hx hf).imp fun v σ H Q ⟨ba, F, ρ, x, Q', ok, r, h, k⟩ => by
    obtain ⟨d, F1, ρ1, ok1, s1, hr, h1⟩ := frz_ok ok r h
    obtain ⟨ok2, s2⟩ := ok1.setImm i hr
    exact k _ _ _ _ ok2 (s1.trans s2) h1
theorem lgs_nil : PGs X [] (LGs W dGNil) := pgs_nil.imp fun v σ H Q ⟨ba, F, ρ, ds, Q', ok, r, h, k⟩ => by
  obtain ⟨e, h⟩ := h
  subst e
  cases r
  exact ⟨rfl, k F ρ σ H ok (Step.refl _ _ _) h⟩
theorem lgs_cons {e : Expr} {es : List Expr} {t : WPG} {u : WPGs} (h1 : PG X e (LG W t)) (h2 : PGs X es (LGs W u)) (hs : (assignEach (e :: es) X.env).map (·.2) = assign e X.env :: (assignEach es X.env).map (·.2) := by rfl) : PGs X (e :: es) (LGs W (dGCons t u)) :=
  (pgs_cons h1 h2 hs).imp fun vs σ H Q ⟨ba, F, ρ, ds, Q', ok, r, h, k⟩ => by
    cases r with
    | nil => exact h.elim
    | @cons v vs d ds a r =>
      refine ⟨v, vs, rfl, ba, F, ρ, .imm d, _, ok, a, h, fun F1 ρ1 σ1 H1 ok1 s1 q => ?_⟩
      exact ⟨ba, F1, ρ1, ds, Q', ok1, r.mono s1.f, q, fun F2 ρ2 σ2 H2 ok2 s2 q2 => k F2 ρ2 σ2 H2 ok2 (s1.trans s2) q2⟩
theorem lg_tup {es : List Expr} {j : Nat} {u : WPGs} {n : Nat} (hK : X.K = W.K) (hc : X.calm = true) (h : PGs X es (LGs W u)) (hn : (assignEach es X.env).length = n := by rfl) (hst : (assignEach es X.env).findIdx? (·.1) = none := by rfl) : PG X (.Tuple es j pos) (LG W (dTupT n u)) :=
  (pg_tup hc h hn hst).imp fun v σ H Q ⟨ba, F, ρ, x, Q', ok, r, h, k⟩ => by
    obtain ⟨d, hd, h1⟩ := look_ok ok r h
    split at h1
    · obtain ⟨a, xs, rfl, _, h2, r2⟩ := hd
      exact ⟨a, xs, rfl, by rw [hK]; exact h2, by rw [r2.length]; exact h1.1, ba, F, ρ, _, Q', ok, r2, h1.2, k⟩
    · exact h1.elim
end

/-! ### statements -/
def sNext : WPS := fun D ρ => D.nx ρ
def sSeq (t u : WPS) : WPS := fun D ρ => t { D with nx := u D } ρ
def sIf (c : WPT) (t u : WPS) : WPS := fun D ρ => c ρ fun b ρ1 => if b = true then t D ρ1 else u D ρ1
def sAsg (t : WPE) (g : WPG) : WPS := fun D ρ => t ρ fun x ρ1 => g x ρ1 D.nx
/-- name = a new thing -/
def sNew (t : WPN) (i : Nat) : WPS := fun D ρ => t ρ fun c ρ1 => D.nx (ρ1.set i (some (.own c)))
def sRet (t : WPE) : WPS := fun D ρ => t ρ D.rt
def sRetNew (t : WPN) : WPS := fun D ρ => t ρ D.rn
def sRetN : WPS := fun D ρ => D.rt (.imm .non) ρ
def sDrop (t : WPE) : WPS := fun D ρ => t ρ fun _ ρ1 => D.nx ρ1
def sBreak : WPS := fun D ρ => D.bk ρ
def sCont : WPS := fun D ρ => D.ct ρ
def sNever : WPS := fun _ _ => False
section
variable {X : Cx} {st : Stmt} {rest a b : List Stmt} {e c : Expr} {t u : WPS} {te : WPE} {tn : WPN} {tc : WPT} {g : WPG} {pos : Pos}
theorem ls_nil : PSs X [] (LS W sNext) := pss_nil.imp fun D σ H ⟨ba, F, ρ, D', ok, h, k⟩ => k.nx F ρ σ H ok (Step.refl _ _ _) h
theorem ls_cons (h1 : PS X st (LS W t)) (h2 : PSs X rest (LS W u)) : PSs X (st :: rest) (LS W (sSeq t u)) := (pss_cons h1 h2).imp fun D σ H ⟨ba, F, ρ, D', ok, h, k⟩ =>
  ⟨ba, F, ρ, _, ok, h, ⟨fun F1 ρ1 σ1 H1 ok1 s1 q => ⟨ba, F1, ρ1, D', ok1, q, k.step s1⟩, k.bk, k.ct, k.rt, k.rn⟩⟩
theorem ls_one (h1 : PS X st (LS W t)) : PSs X [st] (LS W t) := pss_one h1
theorem ls_pass : PS X (.Pass pos) (LS W sNext) := ps_pass.imp fun D σ H ⟨ba, F, ρ, D', ok, h, k⟩ => k.nx F ρ σ H ok (Step.refl _ _ _) h
theorem ls_break : PS X (.Break pos) (LS W sBreak) := ps_break.imp fun D σ H ⟨ba, F, ρ, D', ok, h, k⟩ => k.bk F ρ σ H ok (Step.refl _ _ _) h
theorem ls_cont : PS X (.Continue pos) (LS W sCont) := ps_continue.imp fun D σ H ⟨ba, F, ρ, D', ok, h, k⟩ => k.ct F ρ σ H ok (Step.refl _ _ _) h
theorem ls_never : PS X st (LS W sNever) := ps_never.imp fun D σ H ⟨ba, F, ρ, D', ok, h, k⟩ => h.elim
theorem ls_if (hc : PT X c (LT W tc)) (ha : PSs X a (LS W t)) (hb : PSs X b (LS W u)) : PS X (.If c a b pos) (LS W (sIf tc t u)) := (ps_if hc ha hb).imp fun D σ H ⟨ba, F, ρ, D', ok, h, k⟩ => by
  refine ⟨ba, F, ρ, _, ok, h, fun b F1 ρ1 H1 ok1 s1 q => ?_⟩
  cases b with
  | true => rw [if_pos rfl] at q ⊢; exact ⟨ba, F1, ρ1, D', ok1, q, k.step s1⟩
  | false => rw [if_neg Bool.false_ne_true] at q ⊢; exact ⟨ba, F1, ρ1, D', ok1, q, k.step s1⟩
theorem ls_expr (he : PE X e (LE W te)) (hs : swapsWith e none pos.line X.env = pure false := by rfl) : PS X (.Expr e pos) (LS W (sDrop te)) := (ps_expr he hs).imp fun D σ H ⟨ba, F, ρ, D', ok, h, k⟩ =>
  ⟨ba, F, ρ, _, ok, h, fun v x F1 ρ1 H1 ok1 s1 r1 q => k.nx F1 ρ1 σ H1 ok1 s1 q⟩
theorem ls_ret (he : PE X e (LE W te)) : PS X (.Return (some e) pos) (LS W (sRet te)) := (ps_ret he).imp fun D σ H ⟨ba, F, ρ, D', ok, h, k⟩ =>
  ⟨ba, F, ρ, _, ok, h, fun v x F1 ρ1 H1 ok1 s1 r1 q => k.rt v x F1 ρ1 σ H1 ok1 s1 r1 q⟩
theorem ls_retNew (he : PE X e (LN W tn)) : PS X (.Return (some e) pos) (LS W (sRetNew tn)) := (ps_ret he).imp fun D σ H ⟨ba, F, ρ, D', ok, h, k⟩ =>
  ⟨ba, F, ρ, _, ok, h, fun a c F1 ρ1 H1 ok1 s1 r1 n1 q => k.rn a c F1 ρ1 σ H1 ok1 s1 r1 n1 q⟩
theorem ls_retN : PS X (.Return none pos) (LS W sRetN) := ps_retN.imp fun D σ H ⟨ba, F, ρ, D', ok, h, k⟩ => k.rt .non (.imm .non) F ρ σ H ok (Step.refl _ _ _) .non h
theorem ls_asg {tg : Expr} (he : PE X e (LE W te)) (hg : PG X tg (LG W g)) (hs : swapsWithSole [tg] e pos.line X.env = pure false := by rfl) (hw : swappedStores [tg] e X.env = pure none := by rfl)
    (h1 : (assignEach [tg] X.env).map (·.2) = [assign tg X.env] := by rfl) : PS X (.Assign [tg] e pos) (LS W (sAsg te g)) := (ps_asg he hg hs hw h1).imp fun D σ H ⟨ba, F, ρ, D', ok, h, k⟩ =>
  ⟨ba, F, ρ, _, ok, h, fun v x F1 ρ1 H1 ok1 s1 r1 q => ⟨ba, F1, ρ1, x, _, ok1, r1, q, fun F2 ρ2 σ2 H2 ok2 s2 q2 => k.nx F2 ρ2 σ2 H2 ok2 (s1.trans s2) q2⟩⟩
theorem ls_set {i : Nat} {x : Str} {pos' : Pos} (hN : X.N.Nodup) (hi : X.N[i]? = some x) (hx : Loc X.env.scope x) (he : PE X e (LE W te)) (hs : swapsWith e (some (.Name x pos')) pos.line X.env = pure false := by rfl) (hf : X.fn x = true ∨ X.env.scope.names.lookup x = some .local := by first | exact .inl rfl | exact .inr rfl | assumption) :
    PS X (.Assign [.Name x pos'] e pos) (LS W (sAsg te (dSet i))) := (ps_set hN hi hx he hs hf).imp fun D σ H ⟨ba, F, ρ, D', ok, h, k⟩ =>
  ⟨ba, F, ρ, _, ok, h, fun v x F1 ρ1 H1 ok1 s1 r1 q => by
    obtain ⟨d, F2, ρ2, ok2, s2, hr, h2⟩ := frz_ok ok1 r1 q
    obtain ⟨ok3, s3⟩ := ok2.setImm i hr
    exact k.nx _ _ _ _ ok3 ((s1.trans s2).trans s3) h2⟩
theorem ls_new {i : Nat} {x : Str} {pos' : Pos} (hN : X.N.Nodup) (hi : X.N[i]? = some x) (hx : Loc X.env.scope x) (he : PE X e (LN W tn)) (hs : swapsWith e (some (.Name x pos')) pos.line X.env = pure false := by rfl) (hf : X.fn x = true ∨ X.env.scope.names.lookup x = some .local := by first | exact .inl rfl | exact .inr rfl | assumption) :
    PS X (.Assign [.Name x pos'] e pos) (LS W (sNew tn i)) := (ps_set hN hi hx he hs hf).imp fun D σ H ⟨ba, F, ρ, D', ok, h, k⟩ =>
  ⟨ba, F, ρ, _, ok, h, fun a c F1 ρ1 H1 ok1 s1 r1 n1 q => by
    obtain ⟨ok2, s2⟩ := ok1.setOwn i r1 n1 s1
    exact k.nx _ _ _ _ ok2 s2 q⟩
end
/-- x, y = a, b -/
def sPar (i j : Nat) (ta tb : WPE) : WPS := fun D ρ => ta ρ fun x ρ1 => tb ρ1 fun y ρ2 => frz x ρ2 fun d ρ3 => frz y ρ3 fun e ρ4 => D.nx ((ρ4.set i (some (.imm d))).set j (some (.imm e)))
theorem ls_par {X : Cx} {i j : Nat} {x y : Str} {a b : Expr} {ta tb : WPE} {px py pt pos : Pos} {kt k2 pt2} (hc : X.calm = true) (hN : X.N.Nodup) (hi : X.N[i]? = some x) (hj : X.N[j]? = some y) (hij : i ≠ j)
    (hx : X.env.scope.names.lookup x = some .local) (hy : X.env.scope.names.lookup y = some .local) (ha : PE X a (LE W ta)) (hb : PE X b (LE W tb)) (hw : swappedStores [.Tuple [.Name x px, .Name y py] kt pt] (.Tuple [a, b] k2 pt2) X.env = pure (some [x, y]))
    (hs1 : starEach [a, b] X.env = (false, eval a X.env) :: starEach [b] X.env := by rfl) (hs2 : starEach [b] X.env = (false, eval b X.env) :: starEach [] X.env := by rfl)
    (hs : swapsWithSole [.Tuple [.Name x px, .Name y py] kt pt] (.Tuple [a, b] k2 pt2) pos.line X.env = pure false := by rfl) :
    PS X (.Assign [.Tuple [.Name x px, .Name y py] kt pt] (.Tuple [a, b] k2 pt2) pos) (LS W (sPar i j ta tb)) :=
  (ps_par hc hN hi hj hij hx hy (pa_cons ha (pa_cons hb pa_nil hs2) hs1) hw hs).imp fun D σ H ⟨ba, F, ρ, D', ok, h, k⟩ => by
    refine ⟨ba, F, ρ, _, ok, h, fun v x F1 ρ1 H1 ok1 s1 r1 h1 => ?_⟩
    refine ⟨ba, F1, ρ1, _, ok1, h1, fun w y F2 ρ2 H2 ok2 s2 r2 h2 => ?_⟩
    obtain ⟨d, F3, ρ3, ok3, s3, hr3, h3⟩ := frz_ok ok2 (r1.mono s2.f) h2
    obtain ⟨e, F4, ρ4, ok4, s4, hr4, h4⟩ := frz_ok ok3 (r2.mono s3.f) h3
    obtain ⟨ok5, s5⟩ := ok4.setImm i (hr3.mono s4.f)
    obtain ⟨ok6, s6⟩ := ok5.setImm j hr4
    exact ⟨v, w, rfl, k.nx _ _ _ _ ok6 (s1.trans (s2.trans (s3.trans (s4.trans (s5.trans s6))))) h4⟩

/-! ### while -/
def whileGo (c : WPT) (b : WPS) : Nat → WPS
  | 0 => fun _ _ => False
  | n + 1 => fun D ρ => c ρ fun x ρ1 => if x = true then b { D with nx := fun ρ2 => whileGo c b n D ρ2, ct := fun ρ2 => whileGo c b n D ρ2, bk := D.nx } ρ1 else D.nx ρ1
def sWhile (c : WPT) (b : WPS) : WPS := fun D ρ => ∃ n, whileGo c b n D ρ
theorem ls_while {X : Cx} {c : Expr} {body : List Stmt} {tc : WPT} {tb : WPS} {pos : Pos} (hp : PassesOwn (model X.prog X.w) X.A X.env X.xe) (hc : PT X c (LT W tc)) (hb : PSs X body (LS W tb)) : PS X (.While c body [] pos) (LS W (sWhile tc tb)) :=
  (ps_while hp hc hb).imp fun D σ H ⟨ba, F, ρ, D', ok, ⟨n, h⟩, k⟩ => by
    refine ⟨fun m σ1 H1 => ∃ F1 ρ1, Ok W ba F1 ρ1 σ1 H1 ∧ Step F (Own ρ σ) H F1 (Own ρ1 σ1) H1 ∧ whileGo tc tb m D' ρ1, ⟨n, F, ρ, ok, Step.refl _ _ _, h⟩, ?_⟩
    rintro m σ1 H1 ⟨F1, ρ1, ok1, s1, h1⟩
    cases m with
    | zero => exact h1.elim
    | succ m =>
      refine ⟨ba, F1, ρ1, _, ok1, h1, fun b F2 ρ2 H2 ok2 s2 q => ?_⟩
      cases b with
      | false => rw [if_neg Bool.false_ne_true] at q ⊢; exact k.nx F2 ρ2 σ1 H2 ok2 (s1.trans s2) q
      | true =>
        rw [if_pos rfl] at q ⊢
        have s12 := s1.trans s2
        refine ⟨fun σ' H' => ∃ F3 ρ3, Ok W ba F3 ρ3 σ' H' ∧ Step F (Own ρ σ) H F3 (Own ρ3 σ') H' ∧ whileGo tc tb m D' ρ3, fun σ' H' z => ⟨m, Nat.lt_succ_self _, z⟩, ba, F2, ρ2, _, ok2, q, ?_⟩
        exact ⟨fun F3 ρ3 σ3 H3 ok3 s3 q3 => ⟨F3, ρ3, ok3, s12.trans s3, q3⟩, fun F3 ρ3 σ3 H3 ok3 s3 q3 => k.nx F3 ρ3 σ3 H3 ok3 (s12.trans s3) q3, fun F3 ρ3 σ3 H3 ok3 s3 q3 => ⟨F3, ρ3, ok3, s12.trans s3, q3⟩,
          fun v x F3 ρ3 σ3 H3 ok3 s3 => k.rt v x F3 ρ3 σ3 H3 ok3 (s12.trans s3), fun a c F3 ρ3 σ3 H3 ok3 s3 => k.rn a c F3 ρ3 σ3 H3 ok3 (s12.trans s3)⟩

/-! ### what is walked -/
/-- locked dicts as they stand -/
def Lk (lk : List (Addr × HO)) (H : Hp) : Prop := ∀ p ∈ lk, H p.1 = some p.2
structure ItOk (W : Wd) (J : It) (F : Hp) (lk : List (Addr × HO)) (items : List D) : Prop where
  lkF : ∀ p ∈ lk, F p.1 ≠ none
  go : ∀ i F' H', LeF F F' → LeR F' H' → Lk lk H' → i < items.length → J.go i H'
  stop : ∀ F' H', LeF F F' → LeR F' H' → Lk lk H' → J.stop items.length H'
  yld : ∀ i F' H' x H'' d, LeF F F' → LeR F' H' → Lk lk H' → items[i]? = some d → J.yld i H' x H'' → ∃ F'', LeR F'' H'' ∧ Step F' (fun _ => False) H' F'' (fun _ => False) H'' ∧ Rep W F'' x d
theorem Lk.step {lk : List (Addr × HO)} (h : Lk lk H) (hF : ∀ p ∈ lk, F p.1 ≠ none) (ok : Ok W ba F ρ σ H) {O' : Addr → Prop} (s : Step F (Own ρ σ) H F' O' H') : Lk lk H' := fun p hp =>
  s.h _ _ (h p hp) fun z => hF p hp (ok.own_free z).1
abbrev WPI := Env → (List D → Env → Prop) → Prop
def LI (W : Wd) (t : WPI) : TI := fun σ H R => ∃ ba F ρ Q', Ok W ba F ρ σ H ∧ t ρ Q' ∧ ∀ J items F' ρ' H' lk, Ok W ba F' ρ' σ H' → Step F (Own ρ σ) H F' (Own ρ' σ) H' → ItOk W J F' lk items → Lk lk H' → Q' items ρ' → R J H'
def forGo (g : WPG) (b : WPS) : List D → WPS
  | [] => fun D ρ => D.nx ρ
  | d :: ds => fun D ρ => g (.imm d) ρ fun ρ1 => b { D with nx := fun ρ2 => forGo g b ds D ρ2, ct := fun ρ2 => forGo g b ds D ρ2, bk := D.nx } ρ1
def sFor (t : WPI) (g : WPG) (b : WPS) : WPS := fun D ρ => t ρ fun items ρ1 => forGo g b items D ρ1
theorem for_ok {J : It} {items : List D} {lk : List (Addr × HO)} {g : WPG} {b : WPS} {D' : DEnds} {D : Ends} (ok : Ok W ba F ρ σ H) (it : ItOk W J F lk items) (hl : Lk lk H) (h : forGo g b items D' ρ) (k : KontS W ba F ρ σ H D' D) :
    ∃ Wv : Nat → Nat → L2.St → Hp → Prop, (∃ m, Wv 0 m σ H) ∧ ∀ i m σ H, Wv i m σ H →
      (J.stop i H ∧ D.nx σ H) ∨ (J.go i H ∧ ∃ N : L2.St → Hp → Prop, (∀ σ' H', N σ' H' → ∃ m', m' < m ∧ Wv (i + 1) m' σ' H') ∧ ∀ x H', J.yld i H x H' → LG W g x σ H' fun σ2 H2 => LS W b { D with nx := N, ct := N, bk := D.nx } σ2 H2) := by
  refine ⟨fun i m σ1 H1 => m = items.length - i ∧ i ≤ items.length ∧ ∃ F1 ρ1, Ok W ba F1 ρ1 σ1 H1 ∧ Step F (Own ρ σ) H F1 (Own ρ1 σ1) H1 ∧ Lk lk H1 ∧ forGo g b (items.drop i) D' ρ1, ⟨_, rfl, Nat.zero_le _, F, ρ, ok, Step.refl _ _ _, hl, by simpa using h⟩, ?_⟩
  rintro i m σ1 H1 ⟨rfl, hi, F1, ρ1, ok1, s1, l1, h1⟩
  by_cases hlt : i < items.length
  · refine .inr ⟨it.go i F1 H1 s1.f ok1.le l1 hlt, ?_⟩
    rw [List.drop_eq_getElem_cons hlt] at h1
    refine ⟨fun σ' H' => ∃ F1 ρ1, Ok W ba F1 ρ1 σ' H' ∧ Step F (Own ρ σ) H F1 (Own ρ1 σ') H' ∧ Lk lk H' ∧ forGo g b (items.drop (i + 1)) D' ρ1, fun σ' H' z => ⟨items.length - (i + 1), by omega, rfl, hlt, z⟩, fun x H2 y => ?_⟩
    obtain ⟨F2, le2, s2, r2⟩ := it.yld i F1 H1 x H2 items[i] s1.f ok1.le l1 (by simp [hlt]) y
    have ok2 := ok1.after le2 s2
    have s2' := s1.trans (s2.keep (O := Own ρ1 σ1))
    have l2 : Lk lk H2 := fun p hp => s2.h _ _ (l1 p hp) fun z => z
    have fF : ∀ {F3 : Hp}, LeF F F3 → ∀ p ∈ lk, F3 p.1 ≠ none := fun {F3} e p hp => by
      cases q : F p.1 with
      | none => exact (it.lkF p hp q).elim
      | some o => rw [e _ _ q]; exact fun z => nomatch z
    refine ⟨ba, F2, ρ1, .imm items[i], _, ok2, r2, h1, fun F3 ρ3 σ3 H3 ok3 s3 q3 => ?_⟩
    have s3' := s2'.trans s3
    have l3 := l2.step (fF s2'.f) ok2 s3
    refine ⟨ba, F3, ρ3, _, ok3, q3, ?_⟩
    exact ⟨fun F4 ρ4 σ4 H4 ok4 s4 q4 => ⟨F4, ρ4, ok4, s3'.trans s4, l3.step (fF s3'.f) ok3 s4, q4⟩, fun F4 ρ4 σ4 H4 ok4 s4 q4 => k.nx F4 ρ4 σ4 H4 ok4 (s3'.trans s4) q4, fun F4 ρ4 σ4 H4 ok4 s4 q4 => ⟨F4, ρ4, ok4, s3'.trans s4, l3.step (fF s3'.f) ok3 s4, q4⟩,
      fun v x F4 ρ4 σ4 H4 ok4 s4 => k.rt v x F4 ρ4 σ4 H4 ok4 (s3'.trans s4), fun a c F4 ρ4 σ4 H4 ok4 s4 => k.rn a c F4 ρ4 σ4 H4 ok4 (s3'.trans s4)⟩
  · have e : i = items.length := by omega
    subst e
    rw [List.drop_length] at h1
    exact .inl ⟨it.stop F1 H1 s1.f ok1.le l1, k.nx F1 ρ1 σ1 H1 ok1 s1 h1⟩
theorem ls_for {X : Cx} {tg iter : Expr} {body : List Stmt} {ti : WPI} {g : WPG} {tb : WPS} {pos : Pos} (hp : PassesOwn (model X.prog X.w) X.A X.env X.xe) (hc : X.calm = true) (hi : PI X tg iter (LI W ti)) (hg : PG X tg (LG W g)) (hb : PSs X body (LS W tb))
    (hs : ∀ x, foldedSetIterable iter X.env x = pure x := by intro _; rfl) : PS X (.For tg iter body [] pos) (LS W (sFor ti g tb)) := (ps_for hp hc hi hg hb hs).imp fun D σ H ⟨ba, F, ρ, D', ok, h, k⟩ =>
  ⟨ba, F, ρ, _, ok, h, fun J items F1 ρ1 H1 lk ok1 s1 it l q => for_ok ok1 it l q (k.step s1)⟩
end DL

set_option Elab.async false
set_option linter.all false
set_option maxRecDepth 100000
set_option maxHeartbeats 2000000
/-! DL: comprehensions -/
namespace DL
open PySem L2 PySem.Spec PyProof.Rows
variable {W : Wd} {ba : Nat → Addr} {F F1 F' H H1 H' : Hp} {ρ ρ1 ρ' : Env} {σ σ' : L2.St}

/-! ### a comprehension's own slots -/
def wipeE (ρ : Env) : List Nat → Env
  | [] => ρ
  | v :: vs => (wipeE ρ vs).set v none
def coolB (ρ : Env) : List Nat → Bool
  | [] => true
  | v :: vs => (match ρ[v]? with | some (some (.own _)) => false | some (some (.brw _ _)) => false | _ => true) && coolB ρ vs
def back (ρ0 ρ : Env) : List Nat → Env
  | [] => ρ
  | v :: vs => (back ρ0 ρ vs).set v (match ρ0[v]? with | some s => s | none => none)
theorem cool_of {vs : List Nat} (h : coolB ρ vs = true) : ∀ i ∈ vs, ∀ s, ρ[i]? = some (some s) → ¬ s.hot := by
  induction vs with
  | nil => intro i hi; cases hi
  | cons v vs ih =>
    rw [coolB, Bool.and_eq_true] at h
    intro i hi s e
    rcases List.mem_cons.mp hi with z | z
    · subst z
      have := h.1
      rw [e] at this
      cases s with
      | imm d => exact fun z => z
      | own c => cases this
      | brw j c => cases this
    · exact ih h.2 i z s e
theorem wipeE_some {vs : List Nat} {j : Nat} {s : SV} (h : (wipeE ρ vs)[j]? = some (some s)) : j ∉ vs ∧ ρ[j]? = some (some s) := by
  induction vs with
  | nil => exact ⟨by simp, h⟩
  | cons v vs ih =>
    rw [wipeE] at h
    rcases get_set _ _ _ _ h with ⟨_, e⟩ | ⟨e1, e2⟩
    · cases e
    · obtain ⟨h1, h2⟩ := ih e2
      exact ⟨by simp [e1, h1], h2⟩
theorem wipeE_len (ρ : Env) (vs : List Nat) : (wipeE ρ vs).length = ρ.length := by
  induction vs with
  | nil => rfl
  | cons v vs ih => rw [wipeE, List.length_set, ih]
theorem back_len (ρ0 ρ : Env) (vs : List Nat) : (back ρ0 ρ vs).length = ρ.length := by
  induction vs with
  | nil => rfl
  | cons v vs ih => rw [back, List.length_set, ih]
theorem back_some {ρ0 : Env} {vs : List Nat} {j : Nat} {s : SV} (h : (back ρ0 ρ vs)[j]? = some (some s)) : (j ∈ vs ∧ ρ0[j]? = some (some s)) ∨ (j ∉ vs ∧ ρ[j]? = some (some s)) := by
  induction vs with
  | nil => exact .inr ⟨by simp, h⟩
  | cons v vs ih =>
    rw [back] at h
    rcases get_set _ _ _ _ h with ⟨e1, e⟩ | ⟨e1, e2⟩
    · subst e1
      refine .inl ⟨by simp, ?_⟩
      split at e
      · rename_i s' q; rw [q, e]
      · cases e
    · rcases ih e2 with ⟨h1, h2⟩ | ⟨h1, h2⟩
      · exact .inl ⟨by simp [h1], h2⟩
      · exact .inr ⟨by simp [e1, h1], h2⟩
theorem wipe_out {vs : List Nat} {j : Nat} (h : j ∉ vs) : (wipe σ vs)[j]? = σ[j]? := by
  induction vs with
  | nil => rfl
  | cons v vs ih =>
    rw [wipe, List.getElem?_set_ne (by intro z; exact h (by simp [z])), ih (fun z => h (by simp [z]))]
theorem wipe_agree {σ2 : L2.St} {vs : List Nat} (hl : σ2.length = σ.length) (h : ∀ j, j ∉ vs → σ2[j]? = σ[j]?) : wipe σ2 vs = wipe σ vs := by
  refine List.ext_getElem? fun j => ?_
  by_cases hj : j ∈ vs
  · have aux : ∀ (τ : L2.St) (vs : List Nat), j ∈ vs → (wipe τ vs)[j]? = if j < τ.length then some none else none := by
      intro τ vs
      induction vs with
      | nil => intro h; cases h
      | cons v vs ih =>
        intro h
        rw [wipe]
        by_cases e : v = j
        · subst e
          by_cases hl : v < τ.length
          · rw [if_pos hl, List.getElem?_set_self (by rw [wipe_length]; exact hl)]
          · rw [if_neg hl, List.getElem?_eq_none (by rw [List.length_set, wipe_length]; omega)]
        · rw [List.getElem?_set_ne e]
          exact ih (by rcases List.mem_cons.mp h with z | z; exact (e z.symm).elim; exact z)
    rw [aux σ2 vs hj, aux σ vs hj, hl]
  · rw [wipe_out hj, wipe_out hj, h j hj]
theorem Ok.wipe {vs : List Nat} (ok : Ok W ba F ρ σ H) (hc : coolB ρ vs = true) : Ok W ba F (wipeE ρ vs) (L2.wipe σ vs) H ∧ ∀ a, Own (wipeE ρ vs) (L2.wipe σ vs) a ↔ Own ρ σ a := by
  refine ⟨⟨by rw [wipeE_len, wipe_length]; exact ok.len, ok.le, fun i s hi => ?_, fun i j s s' a hi hj z z' e1 e2 => ?_⟩, fun a => ⟨fun ⟨i, s, hi, z, e⟩ => ?_, fun ⟨i, s, hi, z, e⟩ => ?_⟩⟩
  · obtain ⟨h1, h2⟩ := wipeE_some hi
    obtain ⟨v, h3, h4⟩ := ok.slots i s h2
    exact ⟨v, by rw [wipe_out h1]; exact h3, h4⟩
  · obtain ⟨h1, h2⟩ := wipeE_some hi
    obtain ⟨h3, h4⟩ := wipeE_some hj
    rw [wipe_out h1] at e1; rw [wipe_out h3] at e2
    exact ok.inj i j s s' a h2 h4 z z' e1 e2
  · obtain ⟨h1, h2⟩ := wipeE_some hi
    rw [wipe_out h1] at e
    exact ⟨i, s, h2, z, e⟩
  · have hn : i ∉ vs := fun h => cool_of hc i h s hi z
    refine ⟨i, s, ?_, z, by rw [wipe_out hn]; exact e⟩
    have aux : ∀ vs : List Nat, i ∉ vs → (wipeE ρ vs)[i]? = ρ[i]? := by
      intro vs
      induction vs with
      | nil => intro _; rfl
      | cons v vs ih => intro h; rw [wipeE, List.getElem?_set_ne (by intro z; exact h (by simp [z])), ih (fun z => h (by simp [z]))]
    rw [aux vs hn]; exact hi
theorem Ok.back {vs : List Nat} {ρ3 : Env} {σ2 : L2.St} (ok : Ok W ba F ρ σ H) (hc : coolB ρ vs = true) (ok3 : Ok W ba F' ρ3 σ2 H') (lf : LeF F F') (hl : σ2.length = σ.length) (ha : ∀ j, j ∉ vs → σ2[j]? = σ[j]?) :
    Ok W ba F' (back ρ ρ3 vs) σ H' ∧ ∀ a, Own (DL.back ρ ρ3 vs) σ a → Own ρ3 σ2 a := by
  have hot : ∀ {j : Nat} {s : SV}, (DL.back ρ ρ3 vs)[j]? = some (some s) → s.hot → j ∉ vs ∧ ρ3[j]? = some (some s) := fun {j s} h z => by
    rcases back_some h with ⟨h1, h2⟩ | h
    · exact (cool_of hc j h1 s h2 z).elim
    · exact h
  refine ⟨⟨by rw [back_len, ok3.len, hl], ok3.le, fun i s hi => ?_, fun i j s s' a hi hj z z' e1 e2 => ?_⟩, fun a ⟨i, s, hi, z, e⟩ => ?_⟩
  · rcases back_some hi with ⟨h1, h2⟩ | ⟨h1, h2⟩
    · obtain ⟨v, h3, h4⟩ := ok.slots i s h2
      refine ⟨v, h3, ?_⟩
      cases s with
      | imm d => exact Rep.mono lf h4
      | own c => exact (cool_of hc i h1 _ h2 True.intro).elim
      | brw j c => exact (cool_of hc i h1 _ h2 True.intro).elim
    · obtain ⟨v, h3, h4⟩ := ok3.slots i s h2
      exact ⟨v, by rw [← ha i h1]; exact h3, h4⟩
  · obtain ⟨h1, h2⟩ := hot hi z
    obtain ⟨h3, h4⟩ := hot hj z'
    exact ok3.inj i j s s' a h2 h4 z z' (by rw [ha i h1]; exact e1) (by rw [ha j h3]; exact e2)
  · obtain ⟨h1, h2⟩ := hot hi z
    exact ⟨i, s, h2, z, by rw [ha i h1]; exact e⟩

/-! ### targets of a comprehension: they store into its own slots alone -/
def LGv (W : Wd) (vs : List Nat) (t : WPG) : TG := fun v σ H Q => ∃ ba F ρ x Q', Ok W ba F ρ σ H ∧ VR W F σ v x ∧ t x ρ Q' ∧ ∀ F' ρ' σ' H', Ok W ba F' ρ' σ' H' → Step F (Own ρ σ) H F' (Own ρ' σ') H' → (σ'.length = σ.length ∧ ∀ j, j ∉ vs → σ'[j]? = σ[j]?) → Q' ρ' → Q σ' H'
def LGvs (W : Wd) (vs : List Nat) (t : WPGs) : TGs := fun us σ H Q => ∃ ba F ρ ds Q', Ok W ba F ρ σ H ∧ RepL W F us ds ∧ t ds ρ Q' ∧ ∀ F' ρ' σ' H', Ok W ba F' ρ' σ' H' → Step F (Own ρ σ) H F' (Own ρ' σ') H' → (σ'.length = σ.length ∧ ∀ j, j ∉ vs → σ'[j]? = σ[j]?) → Q' ρ' → Q σ' H'
section
variable {X : Cx} {pos : Pos} {vs : List Nat}
theorem lgv_name {i : Nat} {x : Str} (hv : i ∈ vs) (hN : X.N.Nodup) (hi : X.N[i]? = some x) (hx : Loc X.env.scope x) (hf : X.fn x = true ∨ X.env.scope.names.lookup x = some .local := by first | exact .inl rfl | exact .inr rfl | assumption) : PG X (.Name x pos) (LGv W vs (dSet i)) :=
  (pg_name hN hi hx hf).imp fun v σ H Q ⟨ba, F, ρ, x, Q', ok, r, h, k⟩ => by
    obtain ⟨d, F1, ρ1, ok1, s1, hr, h1⟩ := frz_ok ok r h
    obtain ⟨ok2, s2⟩ := ok1.setImm i hr
    refine k _ _ _ _ ok2 (s1.trans s2) ⟨List.length_set, fun j hj => List.getElem?_set_ne (fun z => hj (by rw [← z]; exact hv))⟩ h1
theorem lgvs_nil : PGs X [] (LGvs W vs dGNil) := pgs_nil.imp fun v σ H Q ⟨ba, F, ρ, ds, Q', ok, r, h, k⟩ => by
  obtain ⟨e, h⟩ := h
  subst e
  cases r
  exact ⟨rfl, k F ρ σ H ok (Step.refl _ _ _) ⟨rfl, fun _ _ => rfl⟩ h⟩
theorem lgvs_cons {e : Expr} {es : List Expr} {t : WPG} {u : WPGs} (h1 : PG X e (LGv W vs t)) (h2 : PGs X es (LGvs W vs u)) (hs : (assignEach (e :: es) X.env).map (·.2) = assign e X.env :: (assignEach es X.env).map (·.2) := by rfl) : PGs X (e :: es) (LGvs W vs (dGCons t u)) :=
  (pgs_cons h1 h2 hs).imp fun us σ H Q ⟨ba, F, ρ, ds, Q', ok, r, h, k⟩ => by
    cases r with
    | nil => exact h.elim
    | @cons v us d ds a r =>
      refine ⟨v, us, rfl, ba, F, ρ, .imm d, _, ok, a, h, fun F1 ρ1 σ1 H1 ok1 s1 v1 q => ?_⟩
      exact ⟨ba, F1, ρ1, ds, Q', ok1, r.mono s1.f, q, fun F2 ρ2 σ2 H2 ok2 s2 v2 q2 => k F2 ρ2 σ2 H2 ok2 (s1.trans s2) ⟨v2.1.trans v1.1, fun j hj => (v2.2 j hj).trans (v1.2 j hj)⟩ q2⟩
theorem lgv_tup {es : List Expr} {j : Nat} {u : WPGs} {n : Nat} (hK : X.K = W.K) (hc : X.calm = true) (h : PGs X es (LGvs W vs u)) (hn : (assignEach es X.env).length = n := by rfl) (hst : (assignEach es X.env).findIdx? (·.1) = none := by rfl) : PG X (.Tuple es j pos) (LGv W vs (dTupT n u)) :=
  (pg_tup hc h hn hst).imp fun v σ H Q ⟨ba, F, ρ, x, Q', ok, r, h, k⟩ => by
    obtain ⟨d, hd, h1⟩ := look_ok ok r h
    split at h1
    · obtain ⟨a, xs, rfl, _, h2, r2⟩ := hd
      exact ⟨a, xs, rfl, by rw [hK]; exact h2, by rw [r2.length]; exact h1.1, ba, F, ρ, _, Q', ok, r2, h1.2, k⟩
    · exact h1.elim
end
/-- the tests -/
def LTs (W : Wd) (t : WPT) : TT := LT W t
def dYes : WPT := fun ρ Q => Q true ρ
theorem _root_.L2.PTs.imp {X : Cx} {es : List Expr} {T T' : TT} (h : PTs X es T) (f : ∀ σ H Q, T' σ H Q → T σ H Q) : PTs X es T' := ⟨fun pins s σ H Q I t => h.run pins s σ H Q I (f σ H Q t)⟩
theorem lts_nil {X : Cx} : PTs X [] (LT W dYes) := pts_nil.imp fun σ H Q ⟨ba, F, ρ, Q', ok, h, k⟩ => k true F ρ H ok (Step.refl _ _ _) h
theorem lts_one {X : Cx} {c : Expr} {t : WPT} (h : PT X c (LT W t)) : PTs X [c] (LT W t) := pts_one h

/-! ### the turns -/
def lcGo (vs : List Nat) (g : WPG) (tt : WPT) (te : WPE) : List D → List D → Env → (List D → Env → Prop) → Prop
  | [], acc, ρ, Q => Q acc ρ
  | d :: ds, acc, ρ, Q => coolB ρ vs = true ∧ g (.imm d) (wipeE ρ vs) fun ρ1 => tt ρ1 fun b ρ2 =>
    if b = true then te ρ2 fun x ρ3 => frz x ρ3 fun e ρ4 => acc.length < sizeLine ∧ lcGo vs g tt te ds (acc ++ [e]) (back ρ ρ4 vs) Q
    else lcGo vs g tt te ds acc (back ρ ρ2 vs) Q
theorem Step.wk2 {O O' O1 O1' : Addr → Prop} (s : Step F O H F1 O1 H1) (h : ∀ a, O a → O' a) (h2 : ∀ a, O1' a → O1 a ∨ O' a) : Step F O' H F1 O1' H1 :=
  ⟨s.f, fun a o e n => s.h a o e fun z => n (h a z), fun a o e n => (s.nf a o e n).imp id (Or.imp (h a) id), fun a z => by
    rcases h2 a z with z | z
    · exact (s.no a z).imp (h a) id
    · exact .inl z⟩
/-- a thing at D that is being made: not of F, not in a slot -/
structure Pend (W : Wd) (ba : Nat → Addr) (L : Addr) (o : HO) (F0 : Hp) (O0 : Addr → Prop) (H0 F : Hp) (ρ : Env) (σ : L2.St) (H : Hp) : Prop where
  ok : Ok W ba F ρ σ H
  st : Step F0 O0 H0 F (fun a => Own ρ σ a ∨ a = L) H
  hD : H L = some o
  fD : F L = none
  nD : ¬ Own ρ σ L
  nt : ∀ xs, o ≠ .tup xs
theorem Pend.step {L : Addr} {o : HO} {F0 H0 F2 H2 : Hp} {O0 : Addr → Prop} {ρ2 : Env} {σ2 : L2.St} {O : Addr → Prop} (p : Pend W ba L o F0 O0 H0 F ρ σ H) (ok : Ok W ba F2 ρ2 σ2 H2) (hO : ∀ a, O a → Own ρ σ a) (s : Step F O H F2 (Own ρ2 σ2) H2) : Pend W ba L o F0 O0 H0 F2 ρ2 σ2 H2 := by
  have nO : ¬ O L := fun z => p.nD (hO L z)
  refine ⟨ok, p.st.trans (s.wk2 (fun a z => .inl (hO a z)) fun a z => z.imp id .inr), s.h _ _ p.hD nO, ?_, fun z => ?_, p.nt⟩
  · cases q : F2 L with
    | none => rfl
    | some u =>
      rcases s.nf L u q p.fD with z | z | ⟨z, xs, y⟩
      · rw [p.hD] at z; cases z
      · exact (nO z).elim
      · rw [p.hD] at z; cases z; exact (p.nt xs y).elim
  · rcases s.no L z with z | z
    · exact nO z
    · rw [p.hD] at z; cases z
/-- fewer slots -/
theorem Pend.back {L : Addr} {o : HO} {F0 H0 : Hp} {O0 : Addr → Prop} {ρ2 : Env} {σ2 : L2.St} (p : Pend W ba L o F0 O0 H0 F ρ σ H) (ok : Ok W ba F ρ2 σ2 H) (hO : ∀ a, Own ρ2 σ2 a → Own ρ σ a) : Pend W ba L o F0 O0 H0 F ρ2 σ2 H :=
  ⟨ok, ⟨p.st.f, p.st.h, p.st.nf, fun a z => p.st.no a (z.imp (hO a) id)⟩, p.hD, p.fD, fun z => p.nD (hO L z), p.nt⟩
theorem Pend.write {L : Addr} {o o' : HO} {F0 H0 : Hp} {O0 : Addr → Prop} (nt : ∀ xs, o' ≠ .tup xs) (p : Pend W ba L o F0 O0 H0 F ρ σ H) (hf : H0 L = none ∨ O0 L) : Pend W ba L o' F0 O0 H0 F ρ σ (upd H L o') := by
  have le : LeR F (upd H L o') := fun a u e => by rw [upd_ne (ne_of_none e p.fD)]; exact p.ok.le a u e
  have ok : Ok W ba F ρ σ (upd H L o') := by
    refine ⟨p.ok.len, le, fun i s hi => ?_, p.ok.inj⟩
    obtain ⟨v, h1, h2⟩ := p.ok.slots i s hi
    refine ⟨v, h1, ?_⟩
    have stay : ∀ {b c}, v = .ref b → s.hot → CellOk W F H b c → CellOk W F (upd H L o') b c := fun {b c} eb hs hc => by
      refine hc.stay (LeF.refl F) hc.free fun u e => ?_
      have nb : b ≠ L := fun z => p.nD ⟨i, s, hi, hs, by rw [h1, eb, z]⟩
      rw [upd_ne nb]; exact e
    cases s with
    | imm d => exact h2
    | own c => obtain ⟨b, eb, h⟩ := h2; exact ⟨b, eb, stay eb True.intro h⟩
    | brw m c => obtain ⟨eb, h⟩ := h2; exact ⟨eb, stay eb True.intro h⟩
  refine ⟨ok, ⟨p.st.f, fun a u e n => ?_, p.st.nf, p.st.no⟩, upd_same, p.fD, p.nD, nt⟩
  have nb : a ≠ L := fun z => by
    subst z
    rcases hf with z | z
    · rw [z] at e; cases e
    · exact n z
  rw [upd_ne nb]; exact p.st.h a u e n
/-- what F knows lies as it lay -/
def KeepF (F H H' : Hp) : Prop := ∀ a u, F a ≠ none → H a = some u → H' a = some u
theorem KeepF.step {F0 H0 : Hp} (h : KeepF F0 H0 H) (lf : LeF F0 F) (ok : Ok W ba F ρ σ H) {O' : Addr → Prop} (s : Step F (Own ρ σ) H F' O' H') : KeepF F0 H0 H' := fun a u n e => s.h _ _ (h a u n e) fun z => by
  have := (ok.own_free z).1
  cases q : F0 a with
  | none => exact n q
  | some o => rw [lf a o q] at this; cases this
theorem lc_ok {J : It} {lk : List (Addr × HO)} {vs : List Nat} {g : WPG} {tt : WPT} {te : WPE} {Q' : List D → Env → Prop} {Qd : Hp → Prop} {L : Addr} {F0 H0 : Hp} {O0 : Addr → Prop} (hf : H0 L = none ∨ O0 L)
    {items acc : List D} {xs : List V} (p : Pend W ba L (.lst xs) F0 O0 H0 F ρ σ H) (hr : RepL W F xs acc) (it : ItOk W J F lk items) (hl : Lk lk H) (h : lcGo vs g tt te items acc ρ Q')
    (hd : ∀ F' ρ' H' acc' xs', Pend W ba L (.lst xs') F0 O0 H0 F' ρ' σ H' → LeF F F' → KeepF F H H' → RepL W F' xs' acc' → Q' acc' ρ' → Qd H') :
    ∃ Wv : Nat → Nat → Hp → Prop, (∃ m, Wv 0 m H) ∧ ∀ i m H, Wv i m H →
      (J.stop i H ∧ Qd H) ∨ (J.go i H ∧ ∃ Nx : Hp → Prop, (∀ H', Nx H' → ∃ m', m' < m ∧ Wv (i + 1) m' H') ∧ ∀ x H', J.yld i H x H' → LGv W vs g x (wipe σ vs) H' fun σ2 H2 => wipe σ2 vs = wipe σ vs ∧ LT W tt σ2 H2 fun b H3 =>
        if b = true then LE W te σ2 H3 fun y H4 => ∃ acc, H4 L = some (.lst acc) ∧ acc.length < sizeLine ∧ Nx (upd H4 L (.lst (acc ++ [y]))) else Nx H3) := by
  refine ⟨fun i m H1 => m = items.length - i ∧ i ≤ items.length ∧ ∃ F1 ρ1 acc1 xs1, Pend W ba L (.lst xs1) F0 O0 H0 F1 ρ1 σ H1 ∧ LeF F F1 ∧ KeepF F H H1 ∧ RepL W F1 xs1 acc1 ∧ lcGo vs g tt te (items.drop i) acc1 ρ1 Q', ⟨_, rfl, Nat.zero_le _, F, ρ, acc, xs, p, LeF.refl F, fun _ _ _ z => z, hr, by simpa using h⟩, ?_⟩
  rintro i m H1 ⟨rfl, hi, F1, ρ1, acc1, xs1, p1, lf1, k1, r1, h1⟩
  have l1 : Lk lk H1 := fun q hq => k1 _ _ (it.lkF q hq) (hl q hq)
  by_cases hlt : i < items.length
  · refine .inr ⟨it.go i F1 H1 lf1 p1.ok.le l1 hlt, ?_⟩
    rw [List.drop_eq_getElem_cons hlt] at h1
    refine ⟨fun H' => ∃ F1 ρ1 acc1 xs1, Pend W ba L (.lst xs1) F0 O0 H0 F1 ρ1 σ H' ∧ LeF F F1 ∧ KeepF F H H' ∧ RepL W F1 xs1 acc1 ∧ lcGo vs g tt te (items.drop (i + 1)) acc1 ρ1 Q', fun H' z => ⟨items.length - (i + 1), by omega, rfl, hlt, z⟩, fun x H2 y => ?_⟩
    obtain ⟨hc, h1⟩ := h1
    obtain ⟨F2, le2, s2, r2⟩ := it.yld i F1 H1 x H2 items[i] lf1 p1.ok.le l1 (by simp [hlt]) y
    have ok2 := p1.ok.after le2 s2
    have p2 := p1.step ok2 (O := Own ρ1 σ) (fun _ z => z) s2.keep
    have k2 : KeepF F H H2 := fun a u n e => s2.h _ _ (k1 a u n e) fun z => z
    have lf2 := lf1.trans s2.f
    obtain ⟨okw, hw⟩ := ok2.wipe hc
    have pw := p2.back okw fun a z => (hw a).mp z
    refine ⟨ba, F2, wipeE ρ1 vs, .imm items[i], _, okw, r2, h1, fun F3 ρ3 σ3 H3 ok3 s3 v3 q3 => ⟨?_, ?_⟩⟩
    · rw [wipe_agree (by rw [v3.1]) v3.2]
      rw [wipe_agree (wipe_length σ vs) fun j hj => wipe_out hj]
    have p3 := pw.step ok3 (fun _ z => z) s3
    have k3 := k2.step lf2 okw s3
    have lf3 := lf2.trans s3.f
    have v3' : σ3.length = σ.length ∧ ∀ j, j ∉ vs → σ3[j]? = σ[j]? := ⟨v3.1.trans (wipe_length _ _), fun j hj => (v3.2 j hj).trans (wipe_out hj)⟩
    refine ⟨ba, F3, ρ3, _, ok3, q3, fun b F4 ρ4 H4 ok4 s4 q4 => ?_⟩
    have p4 := p3.step ok4 (fun _ z => z) s4
    have k4 := k3.step lf3 ok3 s4
    have lf4 := lf3.trans s4.f
    cases b with
    | false =>
      rw [if_neg Bool.false_ne_true] at q4
      refine iteF ?_
      obtain ⟨okb, hb⟩ := ok2.back hc ok4 (s3.f.trans s4.f) v3'.1 v3'.2
      exact ⟨F4, _, acc1, xs1, p4.back okb hb, lf4, k4, r1.mono (s2.f.trans (s3.f.trans s4.f)), q4⟩
    | true =>
      rw [if_pos rfl] at q4
      refine iteT ?_
      refine ⟨ba, F4, ρ4, _, ok4, q4, fun v x5 F5 ρ5 H5 ok5 s5 r5 q5 => ?_⟩
      have p5 := p4.step ok5 (fun _ z => z) s5
      have k5 := k4.step lf4 ok4 s5
      obtain ⟨e, F6, ρ6, ok6, s6, r6, hz, q6⟩ := frz_ok ok5 r5 q5
      have p6 := p5.step ok6 (fun _ z => z) s6
      have k6 := k5.step (lf4.trans s5.f) ok5 s6
      have lf6 := (lf4.trans s5.f).trans s6.f
      have r16 := r1.mono (s2.f.trans (s3.f.trans (s4.f.trans (s5.f.trans s6.f))))
      obtain ⟨okb, hb⟩ := ok2.back hc ok6 (s3.f.trans (s4.f.trans (s5.f.trans s6.f))) v3'.1 v3'.2
      have p7 := (p6.back okb hb).write (o' := .lst (xs1 ++ [v])) (fun _ z => nomatch z) hf
      refine ⟨xs1, p6.hD, by rw [r16.length]; exact hz, F6, _, acc1 ++ [e], xs1 ++ [v], p7, lf6, fun a u n e2 => ?_, r16.append (.cons r6 .nil), q6⟩
      have na : a ≠ L := fun z => by
        subst z
        cases z : F a with
        | none => exact n z
        | some o => exact nomatch (lf6 a o z).symm.trans p6.fD
      rw [upd_ne na]
      exact k6 a u n e2
  · have e : i = items.length := by omega
    subst e
    rw [List.drop_length] at h1
    exact .inl ⟨it.stop F1 H1 lf1 p1.ok.le l1, hd F1 ρ1 H1 acc1 xs1 p1 lf1 k1 r1 h1⟩

def dLc (ti : WPI) (vs : List Nat) (g : WPG) (tt : WPT) (te : WPE) : WPN := fun ρ Q => ti ρ fun items ρ1 => lcGo vs g tt te items [] ρ1 fun acc ρ2 => Q (.lst acc) ρ2
theorem lc_read {ti : WPI} {vs : List Nat} {g : WPG} {tt : WPT} {te : WPE} {Q : VK} (h : LN W (dLc ti vs g tt te) σ H Q) : tLc (LI W ti) (LGv W vs g) (LT W tt) (LE W te) vs σ H Q := by
  obtain ⟨ba, F, ρ, Q', ok, h, k⟩ := h
  refine ⟨ba, F, ρ, _, ok, h, fun J items F1 ρ1 H1 lk ok1 s1 it l q L hD => ?_⟩
  obtain ⟨ok2, s2⟩ := ok1.fresh_own (o := .lst []) hD
  have hF := ok1.le.none hD
  have hH : H L = none ∨ Own ρ σ L := by
    cases z : H L with
    | none => exact .inl rfl
    | some o =>
      refine .inr (Classical.byContradiction fun n => ?_)
      rw [s1.h _ _ z n] at hD; cases hD
  have p : Pend W ba L (.lst []) F (Own ρ σ) H F1 ρ1 σ (upd H1 L (.lst [])) := ⟨ok2, s1.trans s2, upd_same, hF, Own.ne_fresh ok1 hD, fun _ z => nomatch z⟩
  have l2 : Lk lk (upd H1 L (.lst [])) := fun q hq => by rw [upd_ne (fun z => by have := l q hq; rw [z, hD] at this; cases this)]; exact l q hq
  refine lc_ok hH p .nil it l2 q fun F' ρ' H' acc' xs' p' lf k' r' q' => ?_
  exact k L (.lst acc') F' ρ' H' p'.ok p'.st ⟨p'.fD, xs', p'.hD, r'⟩ p'.nD q'
section
variable {X : Cx}
theorem ln_lc {elt tg iter : Expr} {ifs : List Expr} {scope : Scope} {own : List (Str × Nat)} {pos : Pos} {ti : WPI} {g : WPG} {tt : WPT} {te : WPE} (hc : X.calm = true) (hN : X.N.Nodup) (hi : PI X tg iter (LI W ti)) (ok : BlkOk X.N X.env.scope scope own)
    (hg : ∀ (s : Shared) (H : Hp) (C : Addr) (cl : List (Str × Addr)) (fp : List Addr), PG (X.blk s H scope (compEnvC scope cl C X.env) fp) tg (LGv W (own.map (·.2)) g)) (ht : ∀ (s : Shared) (H : Hp) (C : Addr) (cl : List (Str × Addr)) (fp : List Addr), PTs (X.blk s H scope (compEnvC scope cl C X.env) fp) ifs (LT W tt))
    (he : ∀ (s : Shared) (H : Hp) (C : Addr) (cl : List (Str × Addr)) (fp : List Addr), PE (X.blk s H scope (compEnvC scope cl C X.env) fp) elt (LE W te)) (hs : ∀ x, foldedSetIterable iter X.env x = pure x := by intro _; rfl) :
    PE X (.ListComp elt [⟨tg, iter, ifs, 0⟩] scope pos) (LN W (dLc ti (own.map (·.2)) g tt te)) := (pe_lc hc hN hi ok hg ht he hs).imp fun σ H Q h => lc_read h
/-- y = [..] -/
theorem ls_setLc {i : Nat} {y : Str} {py : Pos} {elt tg iter : Expr} {ifs : List Expr} {scope : Scope} {own : List (Str × Nat)} {pos spos : Pos} {ti : WPI} {g : WPG} {tt : WPT} {te : WPE} (hc : X.calm = true) (hN : X.N.Nodup) (hy : X.N[i]? = some y) (hyl : X.env.scope.names.lookup y = some .local)
    (hsw : swapsWith (.ListComp elt [⟨tg, iter, ifs, 0⟩] scope pos) (some (.Name y py)) spos.line X.env = pure true) (hi : PI X tg iter (LI W ti)) (ok : BlkOk X.N X.env.scope scope own)
    (hg : ∀ (s : Shared) (H : Hp) (C : Addr) (cl : List (Str × Addr)) (fp : List Addr), PG (X.blk s H scope (compEnvC scope cl C X.env) fp) tg (LGv W (own.map (·.2)) g)) (ht : ∀ (s : Shared) (H : Hp) (C : Addr) (cl : List (Str × Addr)) (fp : List Addr), PTs (X.blk s H scope (compEnvC scope cl C X.env) fp) ifs (LT W tt))
    (he : ∀ (s : Shared) (H : Hp) (C : Addr) (cl : List (Str × Addr)) (fp : List Addr), PE (X.blk s H scope (compEnvC scope cl C X.env) fp) elt (LE W te)) (hs : ∀ x, foldedSetIterable iter X.env x = pure x := by intro _; rfl) :
    PS X (.Assign [.Name y py] (.ListComp elt [⟨tg, iter, ifs, 0⟩] scope pos) spos) (LS W (sNew (dLc ti (own.map (·.2)) g tt te) i)) := (ps_setLc hc hN hy hyl hsw hi ok hg ht he hs).imp fun D σ H ⟨ba, F, ρ, D', ok, h, k⟩ =>
  lc_read ⟨ba, F, ρ, fun c ρ1 => D'.nx (ρ1.set i (some (.own c))), ok, h, fun a c F1 ρ1 H1 ok1 s1 r1 n1 q => by
    obtain ⟨ok2, s2⟩ := ok1.setOwn i r1 n1 s1
    exact k.nx _ _ _ _ ok2 s2 q⟩
end

/-! ### two fors -/
def lc2Go (vs vs1 : List Nat) (g : WPG) (tt : WPT) (ti1 : WPI) (g1 : WPG) (tt1 : WPT) (te : WPE) : List D → List D → Env → (List D → Env → Prop) → Prop
  | [], acc, ρ, Q => Q acc ρ
  | d :: ds, acc, ρ, Q => coolB ρ vs = true ∧ g (.imm d) (wipeE ρ vs) fun ρ1 => tt ρ1 fun b ρ2 =>
    if b = true then ti1 ρ2 fun items ρ3 => lcGo vs1 g1 tt1 te items acc ρ3 fun acc1 ρ4 => lc2Go vs vs1 g tt ti1 g1 tt1 te ds acc1 (back ρ ρ4 vs) Q
    else lc2Go vs vs1 g tt ti1 g1 tt1 te ds acc (back ρ ρ2 vs) Q
def dLc2 (ti : WPI) (vs vs1 : List Nat) (g : WPG) (tt : WPT) (ti1 : WPI) (g1 : WPG) (tt1 : WPT) (te : WPE) : WPN := fun ρ Q => ti ρ fun items ρ1 => lc2Go vs vs1 g tt ti1 g1 tt1 te items [] ρ1 fun acc ρ2 => Q (.lst acc) ρ2
theorem lc2_read {ti : WPI} {vs vs1 : List Nat} {g : WPG} {tt : WPT} {ti1 : WPI} {g1 : WPG} {tt1 : WPT} {te : WPE} {Q : VK} (h : LN W (dLc2 ti vs vs1 g tt ti1 g1 tt1 te) σ H Q) : tLc2 (LI W ti) (LGv W vs g) (LT W tt) (LI W ti1) (LGv W vs1 g1) (LT W tt1) (LE W te) vs vs1 σ H Q := by
  obtain ⟨ba, F, ρ, Q', ok, h, k⟩ := h
  refine ⟨ba, F, ρ, _, ok, h, fun J items F1 ρ1 H1 lk ok1 s1 it l q L hD => ?_⟩
  obtain ⟨ok2, s2⟩ := ok1.fresh_own (o := .lst []) hD
  have hF := ok1.le.none hD
  have hH : H L = none ∨ Own ρ σ L := by
    cases z : H L with
    | none => exact .inl rfl
    | some o =>
      refine .inr (Classical.byContradiction fun n => ?_)
      rw [s1.h _ _ z n] at hD; cases hD
  have p : Pend W ba L (.lst []) F (Own ρ σ) H F1 ρ1 σ (upd H1 L (.lst [])) := ⟨ok2, s1.trans s2, upd_same, hF, Own.ne_fresh ok1 hD, fun _ z => nomatch z⟩
  have l2 : Lk lk (upd H1 L (.lst [])) := fun q hq => by rw [upd_ne (fun z => by have := l q hq; rw [z, hD] at this; cases this)]; exact l q hq
  have fF : ∀ {F3 : Hp}, LeF F1 F3 → ∀ q ∈ lk, F3 q.1 ≠ none := fun {F3} e q hq => by
    cases z : F1 q.1 with
    | none => exact (it.lkF q hq z).elim
    | some o => rw [e _ _ z]; exact fun z => nomatch z
  refine ⟨fun i m H2 => m = items.length - i ∧ i ≤ items.length ∧ ∃ F2 ρ2 acc2 xs2, Pend W ba L (.lst xs2) F (Own ρ σ) H F2 ρ2 σ H2 ∧ LeF F1 F2 ∧ Lk lk H2 ∧ RepL W F2 xs2 acc2 ∧ lc2Go vs vs1 g tt ti1 g1 tt1 te (items.drop i) acc2 ρ2 (fun acc ρ2 => Q' (.lst acc) ρ2), ⟨_, rfl, Nat.zero_le _, F1, ρ1, [], [], p, LeF.refl F1, l2, .nil, by simpa using q⟩, ?_⟩
  rintro i m H2 ⟨rfl, hi, F2, ρ2, acc2, xs2, p2, lf2, l2, r2, h2⟩
  by_cases hlt : i < items.length
  · refine .inr ⟨it.go i F2 H2 lf2 p2.ok.le l2 hlt, ?_⟩
    rw [List.drop_eq_getElem_cons hlt] at h2
    refine ⟨fun H' => ∃ F2 ρ2 acc2 xs2, Pend W ba L (.lst xs2) F (Own ρ σ) H F2 ρ2 σ H' ∧ LeF F1 F2 ∧ Lk lk H' ∧ RepL W F2 xs2 acc2 ∧ lc2Go vs vs1 g tt ti1 g1 tt1 te (items.drop (i + 1)) acc2 ρ2 (fun acc ρ2 => Q' (.lst acc) ρ2), fun H' z => ⟨items.length - (i + 1), by omega, rfl, hlt, z⟩, fun x H3 y => ?_⟩
    obtain ⟨hc, h2⟩ := h2
    obtain ⟨F3, le3, s3, r3⟩ := it.yld i F2 H2 x H3 items[i] lf2 p2.ok.le l2 (by simp [hlt]) y
    have ok3 := p2.ok.after le3 s3
    have p3 := p2.step ok3 (O := Own ρ2 σ) (fun _ z => z) s3.keep
    have l3 : Lk lk H3 := fun q hq => s3.h _ _ (l2 q hq) fun z => z
    have lf3 := lf2.trans s3.f
    obtain ⟨okw, hw⟩ := ok3.wipe hc
    have pw := p3.back okw fun a z => (hw a).mp z
    refine ⟨ba, F3, wipeE ρ2 vs, .imm items[i], _, okw, r3, h2, fun F4 ρ4 σ4 H4 ok4 s4 v4 q4 => ⟨?_, ?_⟩⟩
    · rw [wipe_agree (by rw [v4.1]) v4.2]
      rw [wipe_agree (wipe_length σ vs) fun j hj => wipe_out hj]
    have p4 := pw.step ok4 (fun _ z => z) s4
    have l4 := l3.step (fF lf3) okw s4
    have lf4 := lf3.trans s4.f
    have v4' : σ4.length = σ.length ∧ ∀ j, j ∉ vs → σ4[j]? = σ[j]? := ⟨v4.1.trans (wipe_length _ _), fun j hj => (v4.2 j hj).trans (wipe_out hj)⟩
    refine ⟨ba, F4, ρ4, _, ok4, q4, fun b F5 ρ5 H5 ok5 s5 q5 => ?_⟩
    have p5 := p4.step ok5 (fun _ z => z) s5
    have l5 := l4.step (fF lf4) ok4 s5
    have lf5 := lf4.trans s5.f
    cases b with
    | false =>
      rw [if_neg Bool.false_ne_true] at q5
      refine iteF ?_
      obtain ⟨okb, hb⟩ := ok3.back hc ok5 (s4.f.trans s5.f) v4'.1 v4'.2
      exact ⟨F5, _, acc2, xs2, p5.back okb hb, lf5, l5, r2.mono (s3.f.trans (s4.f.trans s5.f)), q5⟩
    | true =>
      rw [if_pos rfl] at q5
      refine iteT ?_
      refine ⟨ba, F5, ρ5, _, ok5, q5, fun J1 items1 F6 ρ6 H6 lk1 ok6 s6 it1 l6' q6 => ?_⟩
      have p6 := p5.step ok6 (fun _ z => z) s6
      have l6 := l5.step (fF lf5) ok5 s6
      have lf6 := lf5.trans s6.f
      refine lc_ok hH p6 (r2.mono (s3.f.trans (s4.f.trans (s5.f.trans s6.f)))) it1 l6' q6 fun F7 ρ7 H7 acc7 xs7 p7 lf7 k7 r7 q7 => ?_
      obtain ⟨okb, hb⟩ := ok3.back hc p7.ok (s4.f.trans (s5.f.trans (s6.f.trans lf7))) v4'.1 v4'.2
      exact ⟨F7, _, acc7, xs7, p7.back okb hb, lf6.trans lf7, fun q hq => k7 _ _ (fF lf6 q hq) (l6 q hq), r7, q7⟩
  · have e : i = items.length := by omega
    subst e
    rw [List.drop_length] at h2
    exact .inl ⟨it.stop F2 H2 lf2 p2.ok.le l2, k L (.lst acc2) F2 ρ2 H2 p2.ok p2.st ⟨p2.fD, xs2, p2.hD, r2⟩ p2.nD h2⟩
section
variable {X : Cx}
theorem ln_lc2 {elt tg iter tg1 iter1 : Expr} {ifs ifs1 : List Expr} {scope : Scope} {own : List (Str × Nat)} {vs1 : List Nat} {pos : Pos} {ti ti1 : WPI} {g g1 : WPG} {tt tt1 : WPT} {te : WPE} (hc : X.calm = true) (hN : X.N.Nodup) (hi : PI X tg iter (LI W ti)) (ok : BlkOk X.N X.env.scope scope own) (hv : ∀ i ∈ vs1, i ∈ own.map (·.2))
    (hg : ∀ (s : Shared) (H : Hp) (C : Addr) (cl : List (Str × Addr)) (fp : List Addr), PG (X.blk s H scope (compEnvC scope cl C X.env) fp) tg (LGv W (own.map (·.2)) g)) (ht : ∀ (s : Shared) (H : Hp) (C : Addr) (cl : List (Str × Addr)) (fp : List Addr), PTs (X.blk s H scope (compEnvC scope cl C X.env) fp) ifs (LT W tt))
    (hi1 : ∀ (s : Shared) (H : Hp) (C : Addr) (cl : List (Str × Addr)) (fp : List Addr), PI (X.blk s H scope (compEnvC scope cl C X.env) fp) tg1 iter1 (LI W ti1))
    (hg1 : ∀ (s : Shared) (H : Hp) (C : Addr) (cl : List (Str × Addr)) (fp : List Addr), PG (X.blk s H scope (compEnvC scope cl C X.env) fp) tg1 (LGv W vs1 g1)) (ht1 : ∀ (s : Shared) (H : Hp) (C : Addr) (cl : List (Str × Addr)) (fp : List Addr), PTs (X.blk s H scope (compEnvC scope cl C X.env) fp) ifs1 (LT W tt1))
    (he : ∀ (s : Shared) (H : Hp) (C : Addr) (cl : List (Str × Addr)) (fp : List Addr), PE (X.blk s H scope (compEnvC scope cl C X.env) fp) elt (LE W te)) (hs : ∀ x, foldedSetIterable iter X.env x = pure x := by intro _; rfl) (hs1 : ∀ env x, foldedSetIterable iter1 env x = pure x := by intro _ _; rfl) :
    PE X (.ListComp elt [⟨tg, iter, ifs, 0⟩, ⟨tg1, iter1, ifs1, 0⟩] scope pos) (LN W (dLc2 ti (own.map (·.2)) vs1 g tt ti1 g1 tt1 te)) := (pe_lc2 hc hN hi ok hv hg ht hi1 hg1 ht1 he hs hs1).imp fun σ H Q h => lc2_read h
theorem ls_setLc2 {i : Nat} {y : Str} {py : Pos} {elt tg iter tg1 iter1 : Expr} {ifs ifs1 : List Expr} {scope : Scope} {own : List (Str × Nat)} {vs1 : List Nat} {pos spos : Pos} {ti ti1 : WPI} {g g1 : WPG} {tt tt1 : WPT} {te : WPE} (hc : X.calm = true) (hN : X.N.Nodup) (hy : X.N[i]? = some y) (hyl : X.env.scope.names.lookup y = some .local)
    (hsw : swapsWith (.ListComp elt [⟨tg, iter, ifs, 0⟩, ⟨tg1, iter1, ifs1, 0⟩] scope pos) (some (.Name y py)) spos.line X.env = pure true) (hi : PI X tg iter (LI W ti)) (ok : BlkOk X.N X.env.scope scope own) (hv : ∀ i ∈ vs1, i ∈ own.map (·.2))
    (hg : ∀ (s : Shared) (H : Hp) (C : Addr) (cl : List (Str × Addr)) (fp : List Addr), PG (X.blk s H scope (compEnvC scope cl C X.env) fp) tg (LGv W (own.map (·.2)) g)) (ht : ∀ (s : Shared) (H : Hp) (C : Addr) (cl : List (Str × Addr)) (fp : List Addr), PTs (X.blk s H scope (compEnvC scope cl C X.env) fp) ifs (LT W tt))
    (hi1 : ∀ (s : Shared) (H : Hp) (C : Addr) (cl : List (Str × Addr)) (fp : List Addr), PI (X.blk s H scope (compEnvC scope cl C X.env) fp) tg1 iter1 (LI W ti1))
    (hg1 : ∀ (s : Shared) (H : Hp) (C : Addr) (cl : List (Str × Addr)) (fp : List Addr), PG (X.blk s H scope (compEnvC scope cl C X.env) fp) tg1 (LGv W vs1 g1)) (ht1 : ∀ (s : Shared) (H : Hp) (C : Addr) (cl : List (Str × Addr)) (fp : List Addr), PTs (X.blk s H scope (compEnvC scope cl C X.env) fp) ifs1 (LT W tt1))
    (he : ∀ (s : Shared) (H : Hp) (C : Addr) (cl : List (Str × Addr)) (fp : List Addr), PE (X.blk s H scope (compEnvC scope cl C X.env) fp) elt (LE W te)) (hs : ∀ x, foldedSetIterable iter X.env x = pure x := by intro _; rfl) (hs1 : ∀ env x, foldedSetIterable iter1 env x = pure x := by intro _ _; rfl) :
    PS X (.Assign [.Name y py] (.ListComp elt [⟨tg, iter, ifs, 0⟩, ⟨tg1, iter1, ifs1, 0⟩] scope pos) spos) (LS W (sNew (dLc2 ti (own.map (·.2)) vs1 g tt ti1 g1 tt1 te) i)) := (ps_setLc2 hc hN hy hyl hsw hi ok hv hg ht hi1 hg1 ht1 he hs hs1).imp fun D σ H ⟨ba, F, ρ, D', ok, h, k⟩ =>
  lc2_read ⟨ba, F, ρ, fun c ρ1 => D'.nx (ρ1.set i (some (.own c))), ok, h, fun a c F1 ρ1 H1 ok1 s1 r1 n1 q => by
    obtain ⟨ok2, s2⟩ := ok1.setOwn i r1 n1 s1
    exact k.nx _ _ _ _ ok2 s2 q⟩
end
end DL

set_option Elab.async false
set_option linter.all false
set_option maxRecDepth 100000
set_option maxHeartbeats 2000000
/-! DL: what is walked; dicts walked; changes; calls -/
namespace DL
open PySem L2 PySem.Spec PyProof.Rows
variable {W : Wd} {ba : Nat → Addr} {F F1 F' H H1 H' : Hp} {ρ ρ1 ρ' : Env} {σ σ' : L2.St}

/-! ### lists, tuples, texts -/
theorem itok_list {a : Addr} {xs : List V} {ds : List D} (h : F a = some (.lst xs)) (r : RepL W F xs ds) (K : PySem.W.Frag) : ItOk W (Itl K a) F [] ds := by
  have at_ : ∀ {F' H'}, LeF F F' → LeR F' H' → SqL K H' a xs := fun {F' H'} e le => SqL.of (le.at (e a _ h) fun z => z)
  refine ⟨(fun p hp => nomatch hp), fun i F' H' e le _ hi => ?_, fun F' H' e le _ => ⟨xs, at_ e le, by rw [r.length]; exact Nat.le_refl _⟩, fun i F' H' x H'' d e le _ hd y => ?_⟩
  · have hi' : i < xs.length := by rw [r.length]; exact hi
    exact ⟨xs, xs[i], at_ e le, by simp [hi']⟩
  · obtain ⟨e1, y⟩ := y
    subst e1
    obtain ⟨v, h1, h2⟩ := r.get hd
    have := y xs (at_ e le)
    rw [h1] at this; cases this
    exact ⟨F', le, Step.refl _ _ _, Rep.mono e h2⟩
theorem itok_tup {a : Addr} {xs : List V} {ds : List D} (h : ST W F a xs) (r : RepL W F xs ds) : ItOk W (Itt W.K a) F [] ds := by
  have at_ : ∀ {F' H'}, LeF F F' → LeR F' H' → SqT W.K H' a xs := fun {F' H'} e le => by
    rcases h with h | ⟨_, _, h⟩
    · exact SqT.of (le.at (e a _ h) fun z => z)
    · exact .inr h
  refine ⟨(fun p hp => nomatch hp), fun i F' H' e le _ hi => ?_, fun F' H' e le _ => ⟨xs, at_ e le, by rw [r.length]; exact Nat.le_refl _⟩, fun i F' H' x H'' d e le _ hd y => ?_⟩
  · have hi' : i < xs.length := by rw [r.length]; exact hi
    exact ⟨xs, xs[i], at_ e le, by simp [hi']⟩
  · obtain ⟨e1, y⟩ := y
    subst e1
    obtain ⟨v, h1, h2⟩ := r.get hd
    have := y xs (at_ e le)
    rw [h1] at this; cases this
    exact ⟨F', le, Step.refl _ _ _, Rep.mono e h2⟩
def signs (z : Str) : List D := z.cps.toList.map fun c => .str ⟨#[c]⟩
theorem itok_str (z : Str) : ItOk W (Its z) F [] (signs z) := by
  refine ⟨(fun p hp => nomatch hp), fun i F' H' e le _ hi => ?_, fun F' H' e le _ => ?_, fun i F' H' x H'' d e le _ hd y => ?_⟩
  · show i < z.cps.size
    simpa [signs] using hi
  · show z.cps.size ≤ _
    simp [signs]
  · obtain ⟨e1, c, h1, h2⟩ := y
    subst e1 h2
    rw [signs, List.getElem?_map] at hd
    have : z.cps.toList[i]? = some c := by rw [Array.getElem?_toList]; exact h1
    rw [this] at hd
    cases hd
    exact ⟨F', le, Step.refl _ _ _, .str _⟩
def rangeD (lo : Int) (n : Nat) : List D := (List.range n).map fun (i : Nat) => .int (lo + (i : Int))
theorem itok_range (lo : Int) (n : Nat) : ItOk W (Itr lo n) F [] (rangeD lo n) := by
  refine ⟨(fun p hp => nomatch hp), fun i F' H' e le _ hi => ?_, fun F' H' e le _ => ?_, fun i F' H' x H'' d e le _ hd y => ?_⟩
  · show i < n
    simpa [rangeD] using hi
  · show n ≤ _
    simp [rangeD]
  · obtain ⟨e1, e2⟩ := y
    subst e1 e2
    rw [rangeD, List.getElem?_map] at hd
    have hi : i < n := by
      by_cases h : i < n
      · exact h
      · rw [List.getElem?_eq_none (by simp; omega)] at hd; cases hd
    rw [List.getElem?_range hi] at hd
    cases hd
    exact ⟨F', le, Step.refl _ _ _, .int _⟩
def iAny (K : PySem.W.Frag) (tl : TE) : TI := fun σ H R => tl σ H fun x H1 => (∃ a, x = .ref a ∧ (∃ xs, SqL K H1 a xs) ∧ R (Itl K a) H1) ∨ (∃ a, x = .ref a ∧ (∃ xs, SqT K H1 a xs) ∧ R (Itt K a) H1) ∨ ∃ z, x = .str z ∧ R (Its z) H1
theorem pi_any {X : Cx} {tg l : Expr} {tl : TE} (hl : PE X l tl) : PI X tg l (iAny X.K tl) := by
  refine ⟨fun pins s σ H R I h => ?_⟩
  refine thn (hl.run pins s σ H _ I h) fun v s1 ⟨x, H1, I1, r1, q1⟩ => ?_
  rcases q1 with ⟨a, e, ⟨xs, hq⟩, q⟩ | ⟨a, e, ⟨xs, hq⟩, q⟩ | ⟨z, e, q⟩
  · subst e
    cases r1
    obtain ⟨its, rv, p, hz⟩ := I1.list hq
    exact wpAny_pyIter_list p.isList (pi_one (tk := s1.toks) I1 _ (turn_list a _) ⟨_, Heap.get?_push_size _ rfl, rfl, rfl⟩ q)
  · subst e
    cases r1
    obtain ⟨its, rv, p, hz⟩ := I1.tuple hq
    exact wpAny_pyIter_tuple (show s1.heap.IsTuple a its.toArray from p) (pi_one (tk := s1.toks) I1 _ (turn_tuple a _) ⟨_, Heap.get?_push_size _ rfl, rfl, rfl⟩ q)
  · subst e
    obtain ⟨t, rfl⟩ := r1
    cases ha : z.cps.all (· < 128)
    · exact wpAny_pyIter_wide ha (pi_one (tk := s1.toks) I1 _ (turn_str _ z t "str_iterator" (.inr rfl)) ⟨_, Heap.get?_push_size _ rfl, rfl, rfl⟩ q)
    · exact wpAny_pyIter_ascii ha (pi_one (tk := s1.toks) I1 _ (turn_str _ z t "str_ascii_iterator" (.inl rfl)) ⟨_, Heap.get?_push_size _ rfl, rfl, rfl⟩ q)
theorem _root_.L2.PI.imp {X : Cx} {tg e : Expr} {T T' : TI} (h : PI X tg e T) (f : ∀ σ H R, T' σ H R → T σ H R) : PI X tg e T' := ⟨fun pins s σ H R I t => h.run pins s σ H R I (f σ H R t)⟩
def dIter (te : WPE) : WPI := fun ρ Q => te ρ fun x ρ1 => frz x ρ1 fun d ρ2 => match d with
  | .lst l => Q l ρ2
  | .tup l => Q l ρ2
  | .str z => Q (signs z) ρ2
  | _ => False
theorem li_any {X : Cx} {tg l : Expr} {te : WPE} (hK : X.K = W.K) (hl : PE X l (LE W te)) : PI X tg l (LI W (dIter te)) := (pi_any hl).imp fun σ H R ⟨ba, F, ρ, Q', ok, h, k⟩ => by
  refine ⟨ba, F, ρ, _, ok, h, fun v x F1 ρ1 H1 ok1 s1 r1 h1 => ?_⟩
  obtain ⟨d, F2, ρ2, ok2, s2, hr, h2⟩ := frz_ok ok1 r1 h1
  rw [hK]
  split at h2
  · cases hr with
    | lst ha r => exact .inl ⟨_, rfl, ⟨_, SqL.of (ok2.le.at ha fun z => z)⟩, k _ _ F2 ρ2 H1 [] ok2 (s1.trans s2) (itok_list ha r _) (fun p hp => nomatch hp) h2⟩
  · cases hr with
    | tup ha r =>
      obtain ⟨a, xs, e1, _, h3, _⟩ := Rep.rh ok2.le (.tup ha r)
      cases e1
      exact .inr (.inl ⟨_, rfl, ⟨_, h3⟩, k _ _ F2 ρ2 H1 [] ok2 (s1.trans s2) (itok_tup ha r) (fun p hp => nomatch hp) h2⟩)
  · cases hr
    exact .inr (.inr ⟨_, rfl, k _ _ F2 ρ2 H1 [] ok2 (s1.trans s2) (itok_str _) (fun p hp => nomatch hp) h2⟩)
  · exact h2.elim
def dRange1 (ts : WPA) : WPI := fun ρ Q => ts ρ fun xs ρ1 => match xs with
  | [.imm (.int j)] => (-(2 ^ 62) ≤ j ∧ j < 2 ^ 62) ∧ Q (rangeD 0 j.toNat) ρ1
  | _ => False
def dRange2 (ts : WPA) : WPI := fun ρ Q => ts ρ fun xs ρ1 => match xs with
  | [.imm (.int i), .imm (.int j)] => (-(2 ^ 62) ≤ i ∧ i < 2 ^ 62 ∧ -(2 ^ 62) ≤ j ∧ j < 2 ^ 62) ∧ Q (rangeD i (j - i).toNat) ρ1
  | _ => False
section
variable {X : Cx} {tg a b : Expr} {ts : WPA} {p pos : Pos}
theorem li_range1 (hg : Gl X "range") (hm : X.mg "range" = none) (ha : PA X [a] (LA W ts)) (hs : starEach [a] X.env = [(false, eval a X.env)] := by rfl) : PI X tg (.Call (.Name "range" p) [a] [] pos) (LI W (dRange1 ts)) := (pi_range1 hg hm ha hs).imp fun σ H R ⟨ba, F, ρ, Q', ok, h, k⟩ => by
  refine ⟨ba, F, ρ, _, ok, h, fun vs xs F1 ρ1 H1 ok1 s1 r1 h1 => ?_⟩
  split at h1
  · cases r1 with
    | cons r rr =>
      cases rr
      cases r
      exact ⟨_, rfl, h1.1.1, h1.1.2, k _ _ F1 ρ1 H1 [] ok1 s1 (itok_range 0 _) (fun p hp => nomatch hp) h1.2⟩
  · exact h1.elim
theorem li_range2 (hg : Gl X "range") (hm : X.mg "range" = none) (ha : PA X [a, b] (LA W ts)) (hs : starEach [a, b] X.env = [(false, eval a X.env), (false, eval b X.env)] := by rfl) (hs2 : starEach [b] X.env = [(false, eval b X.env)] := by rfl) :
    PI X tg (.Call (.Name "range" p) [a, b] [] pos) (LI W (dRange2 ts)) := (pi_range2 hg hm ha hs hs2).imp fun σ H R ⟨ba, F, ρ, Q', ok, h, k⟩ => by
  refine ⟨ba, F, ρ, _, ok, h, fun vs xs F1 ρ1 H1 ok1 s1 r1 h1 => ?_⟩
  split at h1
  · cases r1 with
    | cons r rr =>
      cases rr with
      | cons r2 rr =>
        cases rr
        cases r
        cases r2
        exact ⟨_, _, rfl, h1.1, k _ _ F1 ρ1 H1 [] ok1 s1 (itok_range _ _) (fun p hp => nomatch hp) h1.2⟩
  · exact h1.elim
end

/-! ### enumerate(list), zip(list, list) -/
def enumD (l : List D) : List D := (List.range l.length).zipWith (fun i d => .tup [.int (i : Nat), d]) l
theorem enumD_get {l : List D} {i : Nat} {d : D} (h : (enumD l)[i]? = some d) : ∃ e, l[i]? = some e ∧ d = .tup [.int (i : Nat), e] := by
  rw [enumD, List.getElem?_zipWith] at h
  cases h1 : l[i]? with
  | none =>
    rw [h1] at h
    cases h2 : (List.range l.length)[i]? <;> rw [h2] at h <;> cases h
  | some e =>
    have hi : i < l.length := (List.getElem?_eq_some_iff.mp h1).1
    rw [h1, List.getElem?_range hi] at h
    cases h
    exact ⟨e, rfl, rfl⟩
theorem enumD_len (l : List D) : (enumD l).length = l.length := by simp [enumD]
theorem itok_enum {a : Addr} {xs : List V} {ds : List D} (h : F a = some (.lst xs)) (r : RepL W F xs ds) (K : PySem.W.Frag) : ItOk W (Ite K a) F [] (enumD ds) := by
  have at_ : ∀ {F' H'}, LeF F F' → LeR F' H' → SqL K H' a xs := fun {F' H'} e le => SqL.of (le.at (e a _ h) fun z => z)
  refine ⟨(fun p hp => nomatch hp), fun i F' H' e le _ hi => ?_, fun F' H' e le _ => ⟨xs, at_ e le, by rw [r.length, enumD_len]; exact Nat.le_refl _⟩, fun i F' H' x H'' d e le _ hd y => ?_⟩
  · rw [enumD_len] at hi
    have hi' : i < xs.length := by rw [r.length]; exact hi
    exact ⟨xs, xs[i], at_ e le, by simp [hi']⟩
  · obtain ⟨T, v, h1, h2, h3, h4⟩ := y
    subst h1 h3
    obtain ⟨e', h5, h6⟩ := enumD_get hd
    subst h6
    obtain ⟨w, h7, h8⟩ := r.get h5
    have := h4 xs (at_ e le)
    rw [h7] at this; cases this
    obtain ⟨l, s⟩ := fresh_F (o := .tup [.int (i : Nat), v]) le h2
    exact ⟨_, l, s, .tup (.inl upd_same) (.cons (.int _) (.cons (Rep.mono s.f (Rep.mono e h8)) .nil))⟩
def zipD (l m : List D) : List D := List.zipWith (fun d e => .tup [d, e]) l m
theorem itok_zip {a b : Addr} {xs ys : List V} {ds es : List D} (h : F a = some (.lst xs)) (r : RepL W F xs ds) (h' : F b = some (.lst ys)) (r' : RepL W F ys es) (K : PySem.W.Frag) : ItOk W (Itz K a b) F [] (zipD ds es) := by
  have at_ : ∀ {F' H'}, LeF F F' → LeR F' H' → SqL K H' a xs ∧ SqL K H' b ys := fun {F' H'} e le => ⟨SqL.of (le.at (e a _ h) fun z => z), SqL.of (le.at (e b _ h') fun z => z)⟩
  refine ⟨(fun p hp => nomatch hp), fun i F' H' e le _ hi => ?_, fun F' H' e le _ => ⟨xs, ys, (at_ e le).1, (at_ e le).2, ?_⟩, fun i F' H' x H'' d e le _ hd y => ?_⟩
  · rw [zipD, List.length_zipWith] at hi
    have hi1 : i < xs.length := by rw [r.length]; omega
    have hi2 : i < ys.length := by rw [r'.length]; omega
    exact ⟨xs, ys, xs[i], ys[i], (at_ e le).1, (at_ e le).2, by simp [hi1], by simp [hi2]⟩
  · rw [zipD, List.length_zipWith, r.length, r'.length]; omega
  · obtain ⟨T, v, v', h1, h2, h3, h4, h5⟩ := y
    subst h1 h3
    rw [zipD, List.getElem?_zipWith] at hd
    cases q1 : ds[i]? with
    | none => rw [q1] at hd; cases hd
    | some d1 =>
      cases q2 : es[i]? with
      | none => rw [q1, q2] at hd; cases hd
      | some e1 =>
        rw [q1, q2] at hd
        cases hd
        obtain ⟨w, h7, h8⟩ := r.get q1
        obtain ⟨w', h7', h8'⟩ := r'.get q2
        have t1 := h4 xs (at_ e le).1
        have t2 := h5 ys (at_ e le).2
        rw [h7] at t1; cases t1
        rw [h7'] at t2; cases t2
        obtain ⟨l, s⟩ := fresh_F (o := .tup [v, v']) le h2
        exact ⟨_, l, s, .tup (.inl upd_same) (.cons (Rep.mono s.f (Rep.mono e h8)) (.cons (Rep.mono s.f (Rep.mono e h8')) .nil))⟩
def dEnum (ts : WPA) : WPI := fun ρ Q => ts ρ fun xs ρ1 => frzL xs ρ1 fun ds ρ2 => match ds with
  | [.lst l] => Q (enumD l) ρ2
  | _ => False
def dZip (ts : WPA) : WPI := fun ρ Q => ts ρ fun xs ρ1 => frzL xs ρ1 fun ds ρ2 => match ds with
  | [.lst l, .lst m] => Q (zipD l m) ρ2
  | _ => False
section
variable {X : Cx} {e e2 : Expr} {ts : WPA} {p pos tpos : Pos} {elts : List Expr} {kk : Nat}
theorem li_enum (hK : X.K = W.K) (hg : Gl X "enumerate") (hm : X.mg "enumerate" = none) (ha : PA X [e] (LA W ts)) (hs : starEach [e] X.env = [(false, eval e X.env)] := by rfl) :
    PI X (.Tuple elts kk tpos) (.Call (.Name "enumerate" p) [e] [] pos) (LI W (dEnum ts)) := (pi_enum hg hm ha hs).imp fun σ H R ⟨ba, F, ρ, Q', ok, h, k⟩ => by
  refine ⟨ba, F, ρ, _, ok, h, fun vs xs F1 ρ1 H1 ok1 s1 r1 h1 => ?_⟩
  obtain ⟨ds, F2, ρ2, ok2, s2, hr, h2⟩ := frzL_ok ok1 r1 h1
  split at h2
  · cases hr with
    | cons ra rr =>
      cases rr
      cases ra with
      | lst ha r => exact ⟨_, _, rfl, SqL.of (ok2.le.at ha fun z => z), k _ _ F2 ρ2 H1 [] ok2 (s1.trans s2) (itok_enum ha r _) (fun p hp => nomatch hp) h2⟩
  · exact h2.elim
theorem li_zip (hK : X.K = W.K) (hg : Gl X "zip") (hm : X.mg "zip" = none) (ha : PA X [e, e2] (LA W ts)) (hs : starEach [e, e2] X.env = (false, eval e X.env) :: starEach [e2] X.env := by rfl) (hpl : (backTo pos (starEach [e2] X.env)).any (·.1) = false := by rfl) :
    PI X (.Tuple elts kk tpos) (.Call (.Name "zip" p) [e, e2] [] pos) (LI W (dZip ts)) := (pi_zip hg hm ha hs hpl).imp fun σ H R ⟨ba, F, ρ, Q', ok, h, k⟩ => by
  refine ⟨ba, F, ρ, _, ok, h, fun vs xs F1 ρ1 H1 ok1 s1 r1 h1 => ?_⟩
  obtain ⟨ds, F2, ρ2, ok2, s2, hr, h2⟩ := frzL_ok ok1 r1 h1
  split at h2
  · cases hr with
    | cons ra rr =>
      cases rr with
      | cons rb rr =>
        cases rr
        cases ra with
        | lst ha r =>
          cases rb with
          | lst hb r' => exact ⟨_, _, _, _, rfl, SqL.of (ok2.le.at ha fun z => z), SqL.of (ok2.le.at hb fun z => z), k _ _ F2 ρ2 H1 [] ok2 (s1.trans s2) (itok_zip ha r hb r' _) (fun p hp => nomatch hp) h2⟩
  · exact h2.elim
end
end DL

set_option Elab.async false
set_option linter.all false
set_option maxRecDepth 100000
set_option maxHeartbeats 2000000
/-! DL: dicts walked -/
namespace DL
open PySem L2 PySem.Spec PyProof.Rows
variable {W : Wd} {ba : Nat → Addr} {F F1 F' H H1 H' : Hp} {ρ ρ1 ρ' : Env} {σ σ' : L2.St}

def kD : Key → D
  | .inl i => .int i
  | .inr x => .str x
theorem rep_kD (k : Key) : Rep W F (kV k) (kD k) := by cases k <;> constructor
theorem repL_kD : ∀ (ks : List Key), RepL W F (ks.map kV) (ks.map kD)
  | [] => .nil
  | k :: ks => .cons (rep_kD k) (repL_kD ks)
theorem RepK.get {xs : List (Key × V)} {ds : List (Key × D)} (h : RepK W F xs ds) {i : Nat} {k : Key} {d : D} (e : ds[i]? = some (k, d)) : ∃ v, xs[i]? = some (k, v) ∧ Rep W F v d := by
  induction ds generalizing xs i with
  | nil => simp at e
  | cons d ds ih =>
    cases h with
    | cons a r =>
      cases i with
      | zero => simp at e; obtain ⟨e1, e2⟩ := e; subst e1 e2; exact ⟨_, rfl, a⟩
      | succ i => simp at e; obtain ⟨v, h1, h2⟩ := ih r e; exact ⟨v, by simpa using h1, h2⟩
theorem RepT.get {xs : List (List Key × V)} {ds : List (List Key × D)} (h : RepT W F xs ds) {i : Nat} {k : List Key} {d : D} (e : ds[i]? = some (k, d)) : ∃ v, xs[i]? = some (k, v) ∧ Rep W F v d := by
  induction ds generalizing xs i with
  | nil => simp at e
  | cons d ds ih =>
    cases h with
    | cons a r =>
      cases i with
      | zero => simp at e; obtain ⟨e1, e2⟩ := e; subst e1 e2; exact ⟨_, rfl, a⟩
      | succ i => simp at e; obtain ⟨v, h1, h2⟩ := ih r e; exact ⟨v, by simpa using h1, h2⟩
inductive Wk where
  | keys | vals | items
def walkD (w : Wk) (d : D) : Option (List D) := match w, d with
  | .keys, .dK l => some (l.map fun p => kD p.1)
  | .keys, .dT l => some (l.map fun p => .tup (p.1.map kD))
  | .vals, .dK l => some (l.map fun p => p.2)
  | .items, .dK l => some (l.map fun p => .tup [kD p.1, p.2])
  | _, _ => none
def iW (w : Wk) (T : TE) : TI := match w with
  | .keys => iKeys T
  | .vals => iVals T
  | .items => iItems T
/-- an expression that finds its thing without a change: a name, a name's attribute -/
def Still (W : Wd) (T : TE) (t : WPE) : Prop := ∀ ba F ρ σ H Q', Ok W ba F ρ σ H → t ρ Q' → ∃ v x, VR W F σ v x ∧ Q' x ρ ∧ ∀ H1 (Q : VK), (∀ a C dx fs, H a = some (.ins C dx fs) → H1 a = some (.ins C dx fs)) → Q v H1 → T σ H1 Q
theorem still_var (i : Nat) : Still W (tVar i) (dVar i) := fun ba F ρ σ H Q' ok h => by
  unfold dVar at h
  split at h
  · rename_i d e
    obtain ⟨v, h1, h2⟩ := ok.slots i _ e
    exact ⟨v, .imm d, h2, h, fun H1 Q _ q => ⟨v, h1, q⟩⟩
  · rename_i s _ e
    obtain ⟨v, h1, h2⟩ := ok.slots i _ e
    exact ⟨v, .slot i, h1, h, fun H1 Q _ q => ⟨v, h1, q⟩⟩
  · exact h.elim
theorem still_fld {c : Nat} {f : Str} {i : Nat} (hc : Cls W.K (W.cls c)) (hn : NoAttr W.K (W.cls c) f) : Still W (tFld W.K (tVar i) f) (dFld c f (dVar i)) := fun ba F ρ σ H Q' ok h => by
  obtain ⟨v, x, hv, h1, go⟩ := still_var i ba F ρ σ H _ ok h
  obtain ⟨d, hd, h2⟩ := look_ok ok hv h1
  split at h2
  · obtain ⟨e1, h2⟩ := h2
    subst e1
    split at h2
    · rename_i fs d hf
      obtain ⟨a, dx, xs, rfl, e1, r2⟩ := hd
      obtain ⟨w, hw, hr⟩ := r2.val f hf
      exact ⟨w, .imm d, hr, h2, fun H1 Q hi q => go H1 _ hi ⟨a, _, dx, xs, w, rfl, hi _ _ _ _ e1, hc, hn, hw, q⟩⟩
    · exact h2.elim
  · exact h2.elim
def Jw (w : Wk) (a : Addr) (u : HO) (od : Obj) : It := match w, u with
  | .keys, .dK kvs => Itk a od kvs
  | .keys, .dT kvs => Itkt a od kvs
  | .vals, .dK kvs => Itd a od kvs
  | .items, .dK kvs => Iti a od kvs
  | _, _ => Itr 0 0
/-- a frozen dict as it is walked -/
theorem walk_at {w : Wk} {v : V} {d : D} {l : List D} (hr : Rep W F v d) (hw : walkD w d = some l) : ∃ a u, v = .ref a ∧ F a = some u ∧ Lockable u ∧ (∀ od, ItOk W (Jw w a u od) F [(a, .frz od u)] l) ∧
    ∀ (T : TE) (σ : L2.St) od H1 R, H1 a = some (.frz od u) → (∀ Q : VK, Q v H1 → T σ H1 Q) → R (Jw w a u od) H1 → iW w T σ H1 R := by
  have nn : ∀ {a u}, F a = some u → F a ≠ none := fun {a u} e z => by rw [z] at e; cases e
  unfold walkD at hw
  split at hw
  · cases hw
    cases hr with
    | @dK a xs ds ha r =>
      refine ⟨a, .dK xs, rfl, ha, True.intro, fun od => ⟨fun p hp => by simp at hp; subst hp; exact nn ha, fun i F' H' e le hl hi => ⟨hl _ (List.mem_singleton.mpr rfl), by rw [r.length]; simpa using hi⟩, fun F' H' e le hl => ⟨hl _ (List.mem_singleton.mpr rfl), by rw [r.length]; simp⟩, fun i F' H' x H'' d e le hl hd y => ?_⟩,
        fun T σ od H1 R h1 go q => go _ ⟨a, od, rfl, .inl ⟨xs, h1, q⟩⟩⟩
      obtain ⟨e1, k, v, h1, h2⟩ := y
      subst e1 h2
      rw [List.getElem?_map] at hd
      obtain ⟨p, q, e9⟩ := Option.map_eq_some_iff.mp hd
      subst e9
      · obtain ⟨v', h3, h4⟩ := r.get q
        rw [h1] at h3; cases h3
        exact ⟨F', le, Step.refl _ _ _, rep_kD _⟩
  · cases hw
    cases hr with
    | @dT a xs ds ha r =>
      refine ⟨a, .dT xs, rfl, ha, True.intro, fun od => ⟨fun p hp => by simp at hp; subst hp; exact nn ha, fun i F' H' e le hl hi => ⟨hl _ (List.mem_singleton.mpr rfl), by rw [r.length]; simpa using hi⟩, fun F' H' e le hl => ⟨hl _ (List.mem_singleton.mpr rfl), by rw [r.length]; simp⟩, fun i F' H' x H'' d e le hl hd y => ?_⟩,
        fun T σ od H1 R h1 go q => go _ ⟨a, od, rfl, .inr ⟨xs, h1, q⟩⟩⟩
      obtain ⟨e1, k, v, b, h1, h2, h5⟩ := y
      subst e1 h2
      rw [List.getElem?_map] at hd
      obtain ⟨p, q, e9⟩ := Option.map_eq_some_iff.mp hd
      subst e9
      · obtain ⟨v', h3, h4⟩ := r.get q
        rw [h1] at h3; cases h3
        cases hb : F' b with
        | some o =>
          have := le.at (u := o) hb fun z => by
            rcases le b o hb with w | ⟨_, o2, w⟩
            · rw [h5] at w; cases w; exact z
            · rw [h5] at w; cases w
          rw [h5] at this; cases this
          exact ⟨F', le, Step.refl _ _ _, .tup (.inl hb) (repL_kD _)⟩
        | none =>
          refine ⟨upd F' b (.tup (p.1.map kV)), fun c u hc => ?_, ⟨LeF.new hb, fun _ _ h _ => h, fun c u hc n => ?_, fun _ z => z.elim⟩, .tup (.inl upd_same) (repL_kD _)⟩
          · by_cases z : c = b
            · subst z; rw [upd_same] at hc; cases hc; exact .inl h5
            · rw [upd_ne z] at hc; exact le c u hc
          · by_cases z : c = b
            · subst z; rw [upd_same] at hc; cases hc; exact .inr (.inr ⟨h5, _, rfl⟩)
            · rw [upd_ne z, n] at hc; cases hc
  · cases hw
    cases hr with
    | @dK a xs ds ha r =>
      refine ⟨a, .dK xs, rfl, ha, True.intro, fun od => ⟨fun p hp => by simp at hp; subst hp; exact nn ha, fun i F' H' e le hl hi => ⟨hl _ (List.mem_singleton.mpr rfl), by rw [r.length]; simpa using hi⟩, fun F' H' e le hl => ⟨hl _ (List.mem_singleton.mpr rfl), by rw [r.length]; simp⟩, fun i F' H' x H'' d e le hl hd y => ?_⟩,
        fun T σ od H1 R h1 go q => go _ ⟨a, od, xs, rfl, h1, q⟩⟩
      obtain ⟨e1, k, h1⟩ := y
      subst e1
      rw [List.getElem?_map] at hd
      obtain ⟨p, q, e9⟩ := Option.map_eq_some_iff.mp hd
      subst e9
      · obtain ⟨v', h3, h4⟩ := r.get q
        rw [h1] at h3; cases h3
        exact ⟨F', le, Step.refl _ _ _, Rep.mono e h4⟩
  · cases hw
    cases hr with
    | @dK a xs ds ha r =>
      refine ⟨a, .dK xs, rfl, ha, True.intro, fun od => ⟨fun p hp => by simp at hp; subst hp; exact nn ha, fun i F' H' e le hl hi => ⟨hl _ (List.mem_singleton.mpr rfl), by rw [r.length]; simpa using hi⟩, fun F' H' e le hl => ⟨hl _ (List.mem_singleton.mpr rfl), by rw [r.length]; simp⟩, fun i F' H' x H'' d e le hl hd y => ?_⟩,
        fun T σ od H1 R h1 go q => go _ ⟨a, od, xs, rfl, h1, q⟩⟩
      obtain ⟨T, k, v, h1, h2, h5, h6⟩ := y
      subst h2 h6
      rw [List.getElem?_map] at hd
      obtain ⟨p, q, e9⟩ := Option.map_eq_some_iff.mp hd
      subst e9
      · obtain ⟨v', h3, h4⟩ := r.get q
        rw [h1] at h3; cases h3
        obtain ⟨l, s⟩ := fresh_F (o := .tup [kV p.1, v]) le h5
        exact ⟨_, l, s, .tup (.inl upd_same) (.cons (rep_kD _) (.cons (Rep.mono s.f (Rep.mono e h4)) .nil))⟩
  · cases hw

/-! ### under a lock -/
theorem Ok.lock (ok : Ok W ba F ρ σ H) {a : Addr} {u : HO} {od : Obj} (hF : F a = some u) (hl : Lockable u) : Ok W ba F ρ σ (upd H a (.frz od u)) := by
  refine ⟨ok.len, fun b o e => ?_, fun i s hi => ?_, ok.inj⟩
  · by_cases z : b = a
    · subst z; rw [hF] at e; cases e; exact .inr ⟨hl, od, upd_same⟩
    · rw [upd_ne z]; exact ok.le b o e
  · obtain ⟨v, h1, h2⟩ := ok.slots i s hi
    refine ⟨v, h1, ?_⟩
    have stay : ∀ {b c}, CellOk W F H b c → CellOk W F (upd H a (.frz od u)) b c := fun {b c} hc => by
      refine hc.stay (LeF.refl F) hc.free fun o e => ?_
      have : b ≠ a := fun z => by subst z; rw [hc.free] at hF; cases hF
      rw [upd_ne this]; exact e
    cases s with
    | imm d => exact h2
    | own c => obtain ⟨b, eb, h⟩ := h2; exact ⟨b, eb, stay h⟩
    | brw m c => obtain ⟨eb, h⟩ := h2; exact ⟨eb, stay h⟩
theorem CellOk.unlock {b a : Addr} {u : HO} {c : Cell} (hF : F a = some u) (hc : CellOk W F H b c) : CellOk W F (upd H a u) b c := by
  refine hc.stay (LeF.refl F) hc.free fun o e => ?_
  have : b ≠ a := fun z => by subst z; rw [hc.free] at hF; cases hF
  rw [upd_ne this]; exact e
theorem Ok.unlock (ok : Ok W ba F ρ σ H) {a : Addr} {u : HO} (hF : F a = some u) : Ok W ba F ρ σ (upd H a u) := by
  refine ⟨ok.len, fun b o e => ?_, fun i s hi => ?_, ok.inj⟩
  · by_cases z : b = a
    · subst z; rw [hF] at e; cases e; exact .inl upd_same
    · rw [upd_ne z]; exact ok.le b o e
  · obtain ⟨v, h1, h2⟩ := ok.slots i s hi
    refine ⟨v, h1, ?_⟩
    cases s with
    | imm d => exact h2
    | own c => obtain ⟨b, eb, h⟩ := h2; exact ⟨b, eb, h.unlock hF⟩
    | brw m c => obtain ⟨eb, h⟩ := h2; exact ⟨eb, h.unlock hF⟩
theorem Step.unlock {O O' : Addr → Prop} {a : Addr} {u : HO} {od : Obj} (hH : H a = some u) (s : Step F O (upd H a (.frz od u)) F' O' H') : Step F O H F' O' (upd H' a u) := by
  refine ⟨s.f, fun b o e n => ?_, fun b o e n => ?_, fun b z => ?_⟩
  · by_cases z : b = a
    · subst z; rw [hH] at e; cases e; exact upd_same
    · rw [upd_ne z]; exact s.h b o (by rw [upd_ne z]; exact e) n
  · rcases s.nf b o e n with w | w | ⟨w, xs, y⟩
    · by_cases z : b = a
      · subst z; rw [upd_same] at w; cases w
      · rw [upd_ne z] at w; exact .inl w
    · exact .inr (.inl w)
    · by_cases z : b = a
      · subst z; subst y; rw [upd_same] at w; cases w
      · rw [upd_ne z] at w; exact .inr (.inr ⟨w, xs, y⟩)
  · rcases s.no b z with w | w
    · exact .inl w
    · by_cases z : b = a
      · subst z; rw [upd_same] at w; cases w
      · rw [upd_ne z] at w; exact .inr w
theorem forD_core {a : Addr} {u : HO} {Jf : Obj → It} {items : List D} {g : WPG} {tb : WPS} {wi : TI} {D' : DEnds} {D : Ends} (hF : F a = some u) (hu : Lockable u) (hit : ∀ od, ItOk W (Jf od) F [(a, .frz od u)] items) (ok : Ok W ba F ρ σ H)
    (q : forGo g tb items D' ρ) (k : KontS W ba F ρ σ H D' D) (rd : ∀ od H1 R, H1 a = some (.frz od u) → (∀ b C dx fs, H b = some (.ins C dx fs) → H1 b = some (.ins C dx fs)) → R (Jf od) H1 → wi σ H1 R) :
    tLock (tFor wi (LG W g) (LS W tb)) D σ H ∨ tFor wi (LG W g) (LS W tb) D σ H := by
  have mu : Mut (some u) := by cases u <;> first | exact hu.elim | exact True.intro
  have nO : ∀ {F1 : Hp} {ρ1 : Env} {σ1 : L2.St} {H1 : Hp}, LeF F F1 → Ok W ba F1 ρ1 σ1 H1 → ¬ Own ρ1 σ1 a := fun e ok z => by
    have := (ok.own_free z).1
    rw [e _ _ hF] at this; cases this
  rcases ok.le a u hF with hH | ⟨_, od, hH⟩
  · refine .inl ⟨a, u, hH, mu, fun od => ?_⟩
    have okL := ok.lock (od := od) hF hu
    refine rd od _ _ upd_same (fun b C dx fs e => ?_) (for_ok okL (hit od) (fun p hp => by simp at hp; subst hp; exact upd_same) q ?_)
    · have : b ≠ a := fun z => by subst z; rw [hH] at e; cases e; exact hu
      rw [upd_ne this]; exact e
    · refine ⟨fun F1 ρ1 σ1 H1 ok1 s1 q1 => ?_, fun F1 ρ1 σ1 H1 ok1 s1 q1 => ?_, fun F1 ρ1 σ1 H1 ok1 s1 q1 => ?_, fun v x F1 ρ1 σ1 H1 ok1 s1 r1 q1 => ?_, fun b c F1 ρ1 σ1 H1 ok1 s1 r1 n1 q1 => ?_⟩
      · exact ⟨s1.h _ _ upd_same (nO (LeF.refl F) ok), k.nx F1 ρ1 σ1 _ (ok1.unlock (s1.f _ _ hF)) (s1.unlock hH) q1⟩
      · exact ⟨s1.h _ _ upd_same (nO (LeF.refl F) ok), k.bk F1 ρ1 σ1 _ (ok1.unlock (s1.f _ _ hF)) (s1.unlock hH) q1⟩
      · exact ⟨s1.h _ _ upd_same (nO (LeF.refl F) ok), k.ct F1 ρ1 σ1 _ (ok1.unlock (s1.f _ _ hF)) (s1.unlock hH) q1⟩
      · exact ⟨s1.h _ _ upd_same (nO (LeF.refl F) ok), k.rt v x F1 ρ1 σ1 _ (ok1.unlock (s1.f _ _ hF)) (s1.unlock hH) r1 q1⟩
      · exact ⟨s1.h _ _ upd_same (nO (LeF.refl F) ok), k.rn b c F1 ρ1 σ1 _ (ok1.unlock (s1.f _ _ hF)) (s1.unlock hH) (r1.unlock (s1.f _ _ hF)) n1 q1⟩
  · exact .inr (rd od H _ hH (fun _ _ _ _ e => e) (for_ok ok (hit od) (fun p hp => by simp at hp; subst hp; exact hH) q k))
theorem lcD_core {a : Addr} {u : HO} {wi : TI} {t : TE} {K : Hp → VK → Prop} (hF : F a = some u) (hu : Lockable u) (ok : Ok W ba F ρ σ H) {Q' : Cell → Env → Prop} {Q : VK} (k : KontN W ba F ρ σ H Q' Q)
    (rd : ∀ od H1 Q, H1 a = some (.frz od u) → (∀ b C dx fs, H b = some (.ins C dx fs) → H1 b = some (.ins C dx fs)) → Ok W ba F ρ σ H1 → KontN W ba F ρ σ H1 Q' Q → t σ H1 Q) : tLockE t σ H Q ∨ t σ H Q := by
  have mu : Mut (some u) := by cases u <;> first | exact hu.elim | exact True.intro
  have nO : ¬ Own ρ σ a := fun z => by
    have := (ok.own_free z).1
    rw [hF] at this; cases this
  rcases ok.le a u hF with hH | ⟨_, od, hH⟩
  · refine .inl ⟨a, u, hH, mu, fun od => ?_⟩
    refine rd od _ _ upd_same (fun b C dx fs e => ?_) (ok.lock hF hu) fun b c F1 ρ1 H1 ok1 s1 r1 n1 q1 => ?_
    · have : b ≠ a := fun z => by subst z; rw [hH] at e; cases e; exact hu
      rw [upd_ne this]; exact e
    · exact ⟨s1.h _ _ upd_same nO, k b c F1 ρ1 _ (ok1.unlock (s1.f _ _ hF)) (s1.unlock hH) (r1.unlock (s1.f _ _ hF)) n1 q1⟩
  · exact .inr (rd od H _ hH (fun _ _ _ _ e => e) ok k)
def dWalk (w : Wk) (te : WPE) : WPI := fun ρ Q => te ρ fun x ρ1 => frz x ρ1 fun d ρ2 => match walkD w d with
  | some l => Q l ρ2
  | none => False
theorem _root_.L2.PS.or {X : Cx} {st : Stmt} {T T' : TS} (h : PS X st T) (h' : PS X st T') : PS X st (fun D σ H => T D σ H ∨ T' D σ H) := ⟨fun pins s σ H D I t => t.elim (h.run pins s σ H D I) (h'.run pins s σ H D I)⟩
theorem ls_forD {X : Cx} {w : Wk} {tg iter : Expr} {body : List Stmt} {te : WPE} {T : TE} {g : WPG} {tb : WPS} {pos : Pos} (st : Still W T te) (hp : PassesOwn (model X.prog X.w) X.A X.env X.xe) (hc : X.calm = true) (hi : PI X tg iter (iW w T)) (hg : PG X tg (LG W g)) (hb : PSs X body (LS W tb))
    (hs : ∀ x, foldedSetIterable iter X.env x = pure x := by intro _; rfl) : PS X (.For tg iter body [] pos) (LS W (sFor (dWalk w te) g tb)) := by
  have h0 := ps_for (pos := pos) hp hc hi hg hb hs
  refine ((ps_lock h0).or h0).imp fun D σ H ⟨ba, F, ρ, D', ok, h, k⟩ => ?_
  obtain ⟨v, x, hv, h1, go⟩ := st ba F ρ σ H _ ok h
  obtain ⟨d, F1, ρ1, ok1, s1, hr, h2⟩ := frz_ok ok hv h1
  split at h2
  · rename_i l hl
    obtain ⟨a, u, rfl, hF, hu, hit, rd⟩ := walk_at hr hl
    exact forD_core hF hu hit ok1 h2 (k.step s1) fun od H1 R e1 e2 q => rd T σ od H1 R e1 (fun Q q => go H1 Q e2 q) q
  · exact h2.elim

/-! ### comprehensions over a dict -/
theorem lc_readD {wi : TI} {J : It} {items : List D} {lk : List (Addr × HO)} {vs : List Nat} {g : WPG} {tt : WPT} {te : WPE} {Q' : Cell → Env → Prop} {Q : VK} (ok : Ok W ba F ρ σ H) (it : ItOk W J F lk items) (hl : Lk lk H) (k : KontN W ba F ρ σ H Q' Q)
    (h : lcGo vs g tt te items [] ρ fun acc ρ2 => Q' (.lst acc) ρ2) (rd : ∀ R, R J H → wi σ H R) : tLc wi (LGv W vs g) (LT W tt) (LE W te) vs σ H Q := by
  refine rd _ fun L hL => ?_
  obtain ⟨ok2, s2⟩ := ok.fresh_own (o := .lst []) hL
  have p : Pend W ba L (.lst []) F (Own ρ σ) H F ρ σ (upd H L (.lst [])) := ⟨ok2, s2, upd_same, ok.le.none hL, Own.ne_fresh ok hL, fun _ z => nomatch z⟩
  have l2 : Lk lk (upd H L (.lst [])) := fun q hq => by rw [upd_ne (fun z => by have := hl q hq; rw [z, hL] at this; cases this)]; exact hl q hq
  exact lc_ok (.inl hL) p .nil it l2 h fun F' ρ' H' acc' xs' p' lf k' r' q' => k L (.lst acc') F' ρ' H' p'.ok p'.st ⟨p'.fD, xs', p'.hD, r'⟩ p'.nD q'
theorem ln_lcD {X : Cx} {w : Wk} {elt tg iter : Expr} {ifs : List Expr} {scope : Scope} {own : List (Str × Nat)} {pos : Pos} {ti : WPE} {T : TE} {g : WPG} {tt : WPT} {te : WPE} (st : Still W T ti) (hc : X.calm = true) (hN : X.N.Nodup) (hi : PI X tg iter (iW w T)) (ok : BlkOk X.N X.env.scope scope own)
    (hg : ∀ (s : Shared) (H : Hp) (C : Addr) (cl : List (Str × Addr)) (fp : List Addr), PG (X.blk s H scope (compEnvC scope cl C X.env) fp) tg (LGv W (own.map (·.2)) g)) (ht : ∀ (s : Shared) (H : Hp) (C : Addr) (cl : List (Str × Addr)) (fp : List Addr), PTs (X.blk s H scope (compEnvC scope cl C X.env) fp) ifs (LT W tt))
    (he : ∀ (s : Shared) (H : Hp) (C : Addr) (cl : List (Str × Addr)) (fp : List Addr), PE (X.blk s H scope (compEnvC scope cl C X.env) fp) elt (LE W te)) (hs : ∀ x, foldedSetIterable iter X.env x = pure x := by intro _; rfl) :
    PE X (.ListComp elt [⟨tg, iter, ifs, 0⟩] scope pos) (LN W (dLc (dWalk w ti) (own.map (·.2)) g tt te)) := by
  have h0 := pe_lc (pos := pos) hc hN hi ok hg ht he hs
  refine ((pe_lock h0).or h0).imp fun σ H Q ⟨ba, F, ρ, Q', ok, h, k⟩ => ?_
  obtain ⟨v, x, hv, h1, go⟩ := st ba F ρ σ H _ ok h
  obtain ⟨d, F1, ρ1, ok1, s1, hr, h2⟩ := frz_ok ok hv h1
  split at h2
  · rename_i l hl
    obtain ⟨a, u, rfl, hF, hu, hit, rd⟩ := walk_at hr hl
    exact lcD_core (wi := iW w T) (K := fun _ _ => True) hF hu ok1 (k.step s1) fun od H1 Q1 e1 e2 okL kL => lc_readD okL (hit od) (fun p hp => by simp at hp; subst hp; exact e1) kL h2 fun R q => rd T σ od H1 R e1 (fun Q q => go H1 Q e2 q) q
  · exact h2.elim

/-! ### dict comprehensions -/
def dcGo (vs : List Nat) (g : WPG) (tt : WPT) (tk tv : WPE) : List D → List (Key × D) → Env → (List (Key × D) → Env → Prop) → Prop
  | [], acc, ρ, Q => Q acc ρ
  | d :: ds, acc, ρ, Q => coolB ρ vs = true ∧ g (.imm d) (wipeE ρ vs) fun ρ1 => tt ρ1 fun b ρ2 =>
    if b = true then tk ρ2 fun x ρ3 => frz x ρ3 fun kd ρ4 => match keyD kd with
      | some key => tv ρ4 fun y ρ5 => frz y ρ5 fun e ρ6 => acc.length < sizeLine ∧ dcGo vs g tt tk tv ds (dput acc key e) (back ρ ρ6 vs) Q
      | none => False
    else dcGo vs g tt tk tv ds acc (back ρ ρ2 vs) Q
theorem dc_ok {J : It} {lk : List (Addr × HO)} {vs : List Nat} {g : WPG} {tt : WPT} {tk tv : WPE} {Q' : List (Key × D) → Env → Prop} {Qd : Hp → Prop} {L : Addr} {F0 H0 : Hp} {O0 : Addr → Prop} (hf : H0 L = none ∨ O0 L)
    {items : List D} {acc : List (Key × D)} {xs : List (Key × V)} (p : Pend W ba L (.dK xs) F0 O0 H0 F ρ σ H) (hr : RepK W F xs acc) (it : ItOk W J F lk items) (hl : Lk lk H) (h : dcGo vs g tt tk tv items acc ρ Q')
    (hd : ∀ F' ρ' H' acc' xs', Pend W ba L (.dK xs') F0 O0 H0 F' ρ' σ H' → LeF F F' → KeepF F H H' → RepK W F' xs' acc' → Q' acc' ρ' → Qd H') :
    ∃ Wv : Nat → Nat → Hp → Prop, (∃ m, Wv 0 m H) ∧ ∀ i m H, Wv i m H →
      (J.stop i H ∧ Qd H) ∨ (J.go i H ∧ ∃ Nx : Hp → Prop, (∀ H', Nx H' → ∃ m', m' < m ∧ Wv (i + 1) m' H') ∧ ∀ x H', J.yld i H x H' → LGv W vs g x (wipe σ vs) H' fun σ2 H2 => wipe σ2 vs = wipe σ vs ∧ LT W tt σ2 H2 fun b H3 =>
        if b = true then LE W tk σ2 H3 fun y H4 => LE W tv σ2 H4 fun z H5 => ∃ kvs k, y = kV k ∧ H5 L = some (.dK kvs) ∧ kvs.length < sizeLine ∧ Nx (upd H5 L (.dK (putK kvs k z))) else Nx H3) := by
  refine ⟨fun i m H1 => m = items.length - i ∧ i ≤ items.length ∧ ∃ F1 ρ1 acc1 xs1, Pend W ba L (.dK xs1) F0 O0 H0 F1 ρ1 σ H1 ∧ LeF F F1 ∧ KeepF F H H1 ∧ RepK W F1 xs1 acc1 ∧ dcGo vs g tt tk tv (items.drop i) acc1 ρ1 Q', ⟨_, rfl, Nat.zero_le _, F, ρ, acc, xs, p, LeF.refl F, fun _ _ _ z => z, hr, by simpa using h⟩, ?_⟩
  rintro i m H1 ⟨rfl, hi, F1, ρ1, acc1, xs1, p1, lf1, k1, r1, h1⟩
  have l1 : Lk lk H1 := fun q hq => k1 _ _ (it.lkF q hq) (hl q hq)
  by_cases hlt : i < items.length
  · refine .inr ⟨it.go i F1 H1 lf1 p1.ok.le l1 hlt, ?_⟩
    rw [List.drop_eq_getElem_cons hlt] at h1
    refine ⟨fun H' => ∃ F1 ρ1 acc1 xs1, Pend W ba L (.dK xs1) F0 O0 H0 F1 ρ1 σ H' ∧ LeF F F1 ∧ KeepF F H H' ∧ RepK W F1 xs1 acc1 ∧ dcGo vs g tt tk tv (items.drop (i + 1)) acc1 ρ1 Q', fun H' z => ⟨items.length - (i + 1), by omega, rfl, hlt, z⟩, fun x H2 y => ?_⟩
    obtain ⟨hc, h1⟩ := h1
    obtain ⟨F2, le2, s2, r2⟩ := it.yld i F1 H1 x H2 items[i] lf1 p1.ok.le l1 (by simp [hlt]) y
    have ok2 := p1.ok.after le2 s2
    have p2 := p1.step ok2 (O := Own ρ1 σ) (fun _ z => z) s2.keep
    have k2 : KeepF F H H2 := fun a u n e => s2.h _ _ (k1 a u n e) fun z => z
    have lf2 := lf1.trans s2.f
    obtain ⟨okw, hw⟩ := ok2.wipe hc
    have pw := p2.back okw fun a z => (hw a).mp z
    refine ⟨ba, F2, wipeE ρ1 vs, .imm items[i], _, okw, r2, h1, fun F3 ρ3 σ3 H3 ok3 s3 v3 q3 => ⟨?_, ?_⟩⟩
    · rw [wipe_agree (by rw [v3.1]) v3.2]
      rw [wipe_agree (wipe_length σ vs) fun j hj => wipe_out hj]
    have p3 := pw.step ok3 (fun _ z => z) s3
    have k3 := k2.step lf2 okw s3
    have lf3 := lf2.trans s3.f
    have v3' : σ3.length = σ.length ∧ ∀ j, j ∉ vs → σ3[j]? = σ[j]? := ⟨v3.1.trans (wipe_length _ _), fun j hj => (v3.2 j hj).trans (wipe_out hj)⟩
    refine ⟨ba, F3, ρ3, _, ok3, q3, fun b F4 ρ4 H4 ok4 s4 q4 => ?_⟩
    have p4 := p3.step ok4 (fun _ z => z) s4
    have k4 := k3.step lf3 ok3 s4
    have lf4 := lf3.trans s4.f
    cases b with
    | false =>
      rw [if_neg Bool.false_ne_true] at q4
      refine iteF ?_
      obtain ⟨okb, hb⟩ := ok2.back hc ok4 (s3.f.trans s4.f) v3'.1 v3'.2
      exact ⟨F4, _, acc1, xs1, p4.back okb hb, lf4, k4, r1.mono (s2.f.trans (s3.f.trans s4.f)), q4⟩
    | true =>
      rw [if_pos rfl] at q4
      refine iteT ?_
      refine ⟨ba, F4, ρ4, _, ok4, q4, fun v x5 F5 ρ5 H5 ok5 s5 r5 q5 => ?_⟩
      have p5 := p4.step ok5 (fun _ z => z) s5
      have k5 := k4.step lf4 ok4 s5
      obtain ⟨kd, F6, ρ6, ok6, s6, r6, q6⟩ := frz_ok ok5 r5 q5
      have p6 := p5.step ok6 (fun _ z => z) s6
      have k6 := k5.step (lf4.trans s5.f) ok5 s6
      have lf6 := (lf4.trans s5.f).trans s6.f
      split at q6
      case h_2 => exact q6.elim
      rename_i key hkey
      refine ⟨ba, F6, ρ6, _, ok6, q6, fun z x7 F7 ρ7 H7 ok7 s7 r7 q7 => ?_⟩
      have p7 := p6.step ok7 (fun _ z => z) s7
      have k7 := k6.step lf6 ok6 s7
      obtain ⟨e, F8, ρ8, ok8, s8, r8, hz, q8⟩ := frz_ok ok7 r7 q7
      have p8 := p7.step ok8 (fun _ z => z) s8
      have k8 := k7.step (lf6.trans s7.f) ok7 s8
      have lf8 := (lf6.trans s7.f).trans s8.f
      have r18 := r1.mono (s2.f.trans (s3.f.trans (s4.f.trans (s5.f.trans (s6.f.trans (s7.f.trans s8.f))))))
      obtain ⟨okb, hb⟩ := ok2.back hc ok8 (s3.f.trans (s4.f.trans (s5.f.trans (s6.f.trans (s7.f.trans s8.f))))) v3'.1 v3'.2
      have p9 := (p8.back okb hb).write (o' := .dK (putK xs1 key z)) (fun _ z => nomatch z) hf
      refine ⟨xs1, key, rep_scal hkey r6, p8.hD, by rw [r18.length]; exact hz, F8, _, dput acc1 key e, putK xs1 key z, p9, lf8, fun a u n e2 => ?_, r18.put key r8, q8⟩
      have na : a ≠ L := fun z => by
        subst z
        cases z : F a with
        | none => exact n z
        | some o => exact nomatch (lf8 a o z).symm.trans p8.fD
      rw [upd_ne na]
      exact k8 a u n e2
  · have e : i = items.length := by omega
    subst e
    rw [List.drop_length] at h1
    exact .inl ⟨it.stop F1 H1 lf1 p1.ok.le l1, hd F1 ρ1 H1 acc1 xs1 p1 lf1 k1 r1 h1⟩
def dDc (ti : WPI) (vs : List Nat) (g : WPG) (tt : WPT) (tk tv : WPE) : WPN := fun ρ Q => ti ρ fun items ρ1 => dcGo vs g tt tk tv items [] ρ1 fun acc ρ2 => Q (.dK acc) ρ2
theorem dc_readD {wi : TI} {J : It} {items : List D} {lk : List (Addr × HO)} {vs : List Nat} {g : WPG} {tt : WPT} {tk tv : WPE} {Q' : Cell → Env → Prop} {Q : VK} (ok : Ok W ba F ρ σ H) (it : ItOk W J F lk items) (hl : Lk lk H) (k : KontN W ba F ρ σ H Q' Q)
    (h : dcGo vs g tt tk tv items [] ρ fun acc ρ2 => Q' (.dK acc) ρ2) (rd : ∀ R, R J H → wi σ H R) : tDc wi (LGv W vs g) (LT W tt) (LE W tk) (LE W tv) vs σ H Q := by
  refine rd _ fun L hL => ?_
  obtain ⟨ok2, s2⟩ := ok.fresh_own (o := .dK []) hL
  have p : Pend W ba L (.dK []) F (Own ρ σ) H F ρ σ (upd H L (.dK [])) := ⟨ok2, s2, upd_same, ok.le.none hL, Own.ne_fresh ok hL, fun _ z => nomatch z⟩
  have l2 : Lk lk (upd H L (.dK [])) := fun q hq => by rw [upd_ne (fun z => by have := hl q hq; rw [z, hL] at this; cases this)]; exact hl q hq
  exact dc_ok (.inl hL) p .nil it l2 h fun F' ρ' H' acc' xs' p' lf k' r' q' => k L (.dK acc') F' ρ' H' p'.ok p'.st ⟨p'.fD, xs', p'.hD, r'⟩ p'.nD q'
section
variable {X : Cx} {kx vx tg iter : Expr} {ifs : List Expr} {scope : Scope} {own : List (Str × Nat)} {pos : Pos} {g : WPG} {tt : WPT} {tk tv : WPE}
theorem ln_dc {ti : WPI} (hc : X.calm = true) (hN : X.N.Nodup) (hi : PI X tg iter (LI W ti)) (ok : BlkOk X.N X.env.scope scope own)
    (hg : ∀ (s : Shared) (H : Hp) (C : Addr) (cl : List (Str × Addr)) (fp : List Addr), PG (X.blk s H scope (compEnvC scope cl C X.env) fp) tg (LGv W (own.map (·.2)) g)) (ht : ∀ (s : Shared) (H : Hp) (C : Addr) (cl : List (Str × Addr)) (fp : List Addr), PTs (X.blk s H scope (compEnvC scope cl C X.env) fp) ifs (LT W tt))
    (hk : ∀ (s : Shared) (H : Hp) (C : Addr) (cl : List (Str × Addr)) (fp : List Addr), PE (X.blk s H scope (compEnvC scope cl C X.env) fp) kx (LE W tk))
    (he : ∀ (s : Shared) (H : Hp) (C : Addr) (cl : List (Str × Addr)) (fp : List Addr), PE (X.blk s H scope (compEnvC scope cl C X.env) fp) vx (LE W tv)) (hs : ∀ x, foldedSetIterable iter X.env x = pure x := by intro _; rfl) :
    PE X (.DictComp kx vx [⟨tg, iter, ifs, 0⟩] scope pos) (LN W (dDc ti (own.map (·.2)) g tt tk tv)) := (pe_dc hc hN hi ok hg ht hk he hs).imp fun σ H Q ⟨ba, F, ρ, Q', ok, h, k⟩ =>
  ⟨ba, F, ρ, _, ok, h, fun J items F1 ρ1 H1 lk ok1 s1 it l q => dc_readD (wi := fun σ H R => R J H) ok1 it l (k.step s1) q fun R q => q⟩
theorem ln_dcD {w : Wk} {ti : WPE} {T : TE} (st : Still W T ti) (hc : X.calm = true) (hN : X.N.Nodup) (hi : PI X tg iter (iW w T)) (ok : BlkOk X.N X.env.scope scope own)
    (hg : ∀ (s : Shared) (H : Hp) (C : Addr) (cl : List (Str × Addr)) (fp : List Addr), PG (X.blk s H scope (compEnvC scope cl C X.env) fp) tg (LGv W (own.map (·.2)) g)) (ht : ∀ (s : Shared) (H : Hp) (C : Addr) (cl : List (Str × Addr)) (fp : List Addr), PTs (X.blk s H scope (compEnvC scope cl C X.env) fp) ifs (LT W tt))
    (hk : ∀ (s : Shared) (H : Hp) (C : Addr) (cl : List (Str × Addr)) (fp : List Addr), PE (X.blk s H scope (compEnvC scope cl C X.env) fp) kx (LE W tk))
    (he : ∀ (s : Shared) (H : Hp) (C : Addr) (cl : List (Str × Addr)) (fp : List Addr), PE (X.blk s H scope (compEnvC scope cl C X.env) fp) vx (LE W tv)) (hs : ∀ x, foldedSetIterable iter X.env x = pure x := by intro _; rfl) :
    PE X (.DictComp kx vx [⟨tg, iter, ifs, 0⟩] scope pos) (LN W (dDc (dWalk w ti) (own.map (·.2)) g tt tk tv)) := by
  have h0 := pe_dc (pos := pos) hc hN hi ok hg ht hk he hs
  refine ((pe_lock h0).or h0).imp fun σ H Q ⟨ba, F, ρ, Q', ok, h, k⟩ => ?_
  obtain ⟨v, x, hv, h1, go⟩ := st ba F ρ σ H _ ok h
  obtain ⟨d, F1, ρ1, ok1, s1, hr, h2⟩ := frz_ok ok hv h1
  split at h2
  · rename_i l hl
    obtain ⟨a, u, rfl, hF, hu, hit, rd⟩ := walk_at hr hl
    exact lcD_core (wi := iW w T) (K := fun _ _ => True) hF hu ok1 (k.step s1) fun od H1 Q1 e1 e2 okL kL => dc_readD okL (hit od) (fun p hp => by simp at hp; subst hp; exact e1) kL h2 fun R q => rd T σ od H1 R e1 (fun Q q => go H1 Q e2 q) q
  · exact h2.elim
end
end DL

set_option Elab.async false
set_option linter.all false
set_option maxRecDepth 100000
set_option maxHeartbeats 2000000
/-! DL: changes, calls, defs -/
namespace DL
open PySem L2 PySem.Spec PyProof.Rows
variable {W : Wd} {ba : Nat → Addr} {F F1 F' H H1 H' : Hp} {ρ ρ1 ρ' : Env} {σ σ' : L2.St}

/-! ### list(x), sorted(x) with dicts -/
theorem call_list_dR {X : Cx} (hc : X.calm = true) : CallR X (.type "list") (fun xs H Q => ∃ p kvs, xs = [.ref p] ∧ Rd H p (.dK kvs) ∧ ∀ q, H q = none → Q (.ref q) (upd H q (.lst (kvs.map fun kv => kV kv.1)))) := by
  intro pins s σ H xs us Q I r h
  obtain ⟨p, kvs, e, hk, q⟩ := h
  subst e
  obtain ⟨u, eu, rx⟩ := vals1 r
  subst eu
  obtain rfl : u = Value.ref p := rx
  obtain ⟨z, lo, vs, rk, hd⟩ := dk_rd I.hok hk
  obtain ⟨ep, hat⟩ := hd.dictAt
  have hl : kvs.length = vs.length := Paired.length rk
  refine PySem.W.kdl_call (PySem.W.kdl_dict (knd := mixKind X.prog X.w) (kvs := vs) (ep := ep) lo) (I.ok.hd hc) hat (by rw [← hl]; exact z) fun h' tk acc' c' hkeep hS hacc => ?_
  refine ⟨.ref s.heap.objs.size, upd H s.heap.objs.size (.lst (kvs.map fun kv => kV kv.1)), I.laid hkeep (Nat.le_refl _) (show ObjOk X.prog X.w _ _ _ (.lst (kvs.map fun kv => kV kv.1)) from ⟨?_, acc'.toList, c', ?_, ?_⟩), rfl, q _ (I.hok.fresh (Nat.le_refl _))⟩
  · rw [List.length_map]; exact z
  · have el : acc'.toList.length = acc'.size := by simp
    refine vals_of_at (by rw [List.length_map, el, hacc.1, hl]) fun j x w h1 h2 => ?_
    obtain ⟨k, y, hky, hi⟩ := hacc.2 j w (by rw [← Array.getElem?_toList]; exact h2)
    have e1 : (kvs.map (·.1))[j]? = some k := by
      rw [KV.keys rk, List.getElem?_map, hky] <;> rfl
    have e2 : (kvs.map fun kv => kV kv.1)[j]? = some (kV k) := by
      have e3 : (kvs.map fun kv => kV kv.1) = (kvs.map (·.1)).map kV := by rw [List.map_map] <;> rfl
      rw [e3, List.getElem?_map, e1] <;> rfl
    rw [e2] at h1
    cases h1
    exact keyIs_rel hi
  · rw [Array.toArray_toList]; exact hS
theorem RepK.keys {xs : List (Key × V)} {ds : List (Key × D)} (h : RepK W F xs ds) : xs.map (·.1) = ds.map (·.1) := by
  induction ds generalizing xs with
  | nil => cases h; rfl
  | cons d ds ih => cases h with | cons _ r => simp [ih r]
def listG2 : GL := fun ds k => match ds with
  | [.dK l] => k (.lst (l.map fun p => kD p.1))
  | _ => listG ds k
abbrev rListA (K : PySem.W.Frag) : List V → Hp → VK → Prop := fun xs H Q => (∃ p ys, xs = [.ref p] ∧ (SqL K H p ys ∨ SqT K H p ys) ∧ ∀ l, H l = none → Q (.ref l) (upd H l (.lst ys))) ∨ ∃ p kvs, xs = [.ref p] ∧ Rd H p (.dK kvs) ∧ ∀ q, H q = none → Q (.ref q) (upd H q (.lst (kvs.map fun kv => kV kv.1)))
theorem cr_list {X : Cx} (hc : X.calm = true) : CallR X (.type "list") (rListA X.K) := CallR.or call_list_of (call_list_dR hc)
theorem real_listG2 : RealL W listG2 (rListA W.K) := by
  intro F H vs ds k Q le hd g kr
  unfold listG2 at g
  split at g
  · rename_i l
    obtain ⟨v, rfl, h⟩ := pr1 hd; obtain ⟨a, xs, rfl, h1, r1⟩ := h
    refine .inr ⟨a, xs, rfl, h1, kr.lst le ?_ g⟩
    have e : (xs.map fun kv => kV kv.1) = (l.map (·.1)).map kV := by rw [← r1.keys, List.map_map]; rfl
    have e2 : (l.map fun p => kD p.1) = (l.map (·.1)).map kD := by rw [List.map_map]; rfl
    rw [e, e2]; exact repL_kD _
  · exact .inl (real_listG F H vs ds k Q le hd g kr)
def rtexts : List (Key × D) → Option (List Str)
  | [] => some []
  | (.inr x, _) :: ds => (rtexts ds).map fun r => x :: r
  | _ => none
theorem rtexts_ok : ∀ {ds : List (Key × D)} {l : List Str}, rtexts ds = some l → ds.map (·.1) = l.map Sum.inr
  | [], l, e => by cases e; rfl
  | (.inr x, d) :: ds, l, e => by
    simp [rtexts] at e
    obtain ⟨q, h3, h4⟩ := e
    subst h4
    simp [rtexts_ok h3]
  | (.inl x, d) :: ds, l, e => by simp [rtexts] at e
def sortedG2 : GL := fun ds k => match ds with
  | [.dK l] => match rtexts l with
    | some ss => ss.length < 64 ∧ k (.lst ((sortS ss).map .str))
    | none => False
  | _ => sortedG ds k
abbrev rSortedB (K : PySem.W.Frag) : List V → Hp → VK → Prop := fun xs H Q => rSortedA K xs H Q ∨ ∃ (a : Addr) (kvs : List (Key × V)) (ks : List Str), xs = [.ref a] ∧ Rd H a (.dK kvs) ∧ kvs.map (·.1) = ks.map Sum.inr ∧ ks.length < 64 ∧
    ∀ ys p, ys.Perm ks → sortedS ys = true → H p = none → Q (.ref p) (upd H p (.lst (ys.map V.str)))
theorem cr_sortedB {X : Cx} (hc : X.calm = true) : CallR X (.builtin "sorted") (rSortedB X.K) := CallR.or cr_sortedA (call_sortedD hc)
theorem real_sortedG2 : RealL W sortedG2 (rSortedB W.K) := by
  intro F H vs ds k Q le hd g kr
  unfold sortedG2 at g
  split at g
  · rename_i l
    obtain ⟨v, rfl, h⟩ := pr1 hd; obtain ⟨a, xs, rfl, h1, r1⟩ := h
    split at g
    · rename_i ss hs
      refine .inr ⟨a, xs, ss, rfl, h1, by rw [r1.keys]; exact rtexts_ok hs, g.1, fun ys p hp hs2 hn => ?_⟩
      have e := sortS_uniq hp hs2
      subst e
      exact kr.lst le (repL_strs _) g.2 p hn
    · exact g.elim
  · exact .inl (real_sortedG F H vs ds k Q le hd g kr)

/-! ### changes -/
def hotAt (ρ : Env) (i : Nat) : Option Cell := match ρ[i]? with
  | some (some (.own c)) => some c
  | some (some (.brw _ c)) => some c
  | _ => none
def putAt (ρ : Env) (i : Nat) (c : Cell) : Env := match ρ[i]? with
  | some (some s) => ρ.set i (some (s.put c))
  | _ => ρ
theorem hot_ok (ok : Ok W ba F ρ σ H) {i : Nat} {c : Cell} (h : hotAt ρ i = some c) : ∃ s b, ρ[i]? = some (some s) ∧ s.hot ∧ σ[i]? = some (some (.ref b)) ∧ CellOk W F H b c ∧ ∀ c', putAt ρ i c' = ρ.set i (some (s.put c')) := by
  unfold hotAt at h
  split at h
  · rename_i c' e
    cases h
    obtain ⟨v, h1, a, e2, h2⟩ := ok.slots i _ e
    subst e2
    exact ⟨_, a, e, True.intro, h1, h2, fun c' => by unfold putAt; rw [e]⟩
  · rename_i j c' e
    cases h
    obtain ⟨v, h1, e2, h2⟩ := ok.slots i _ e
    subst e2
    exact ⟨_, _, e, True.intro, h1, h2, fun c' => by unfold putAt; rw [e]⟩
  · cases h
/-- x.append(e) -/
def dAppend (i : Nat) (t : WPE) : WPE := fun ρ Q => match hotAt ρ i with
  | some (.lst _) => t ρ fun x ρ1 => frz x ρ1 fun d ρ2 => match hotAt ρ2 i with
    | some (.lst l) => l.length < sizeLine ∧ Q (.imm .non) (putAt ρ2 i (.lst (l ++ [d])))
    | _ => False
  | _ => False
/-- x.extend(list) -/
def dExtend (i : Nat) (t : WPE) : WPE := fun ρ Q => match hotAt ρ i with
  | some (.lst _) => t ρ fun x ρ1 => frz x ρ1 fun d ρ2 => match hotAt ρ2 i, d with
    | some (.lst l), .lst m => l.length + m.length ≤ sizeLine ∧ Q (.imm .non) (putAt ρ2 i (.lst (l ++ m)))
    | _, _ => False
  | _ => False
section
variable {X : Cx} {e : Expr} {te : WPE} {x : Str} {npos apos cpos : Pos} {i : Nat}
theorem le_append (hK : X.K = W.K) (ho : PE X (.Name x npos) (tVar i)) (he : PE X e (LE W te)) (hbase : attributeBase (.Name x npos) "append" X.env (eval (.Name x npos) X.env) = eval (.Name x npos) X.env := by rfl)
    (hfew : ((backTo cpos (starEach [e] X.env)).all (fun x => !x.1) && (backToKw cpos (keywordEach [] X.env)).all (fun x => x.1.isSome)
      && decide ([e].length + ([] : List Keyword).length + (if ([] : List Keyword).isEmpty then 0 else 1) < 30)) = true := by rfl)
    (hline : (apos.endLine == cpos.line) = true := by rfl) (hs : starEach [e] X.env = (false, eval e X.env) :: starEach [] X.env := by rfl) (hplain : (backTo cpos (starEach [] X.env)).any (·.1) = false := by rfl) :
    PE X (.Call (.Attribute (.Name x npos) "append" apos) [e] [] cpos) (LE W (dAppend i te)) :=
  (pe_bm PySem.F.plainAttrs_list PySem.F.slot_list_append PySem.F.type_list_append mt_append ho (pa_cons he pa_nil hs) hbase hfew hline hs hplain).imp fun σ H Q ⟨ba, F, ρ, Q', ok, h, k⟩ => by
    unfold dAppend at h
    split at h
    · rename_i l0 e0
      obtain ⟨s, b, h1, h2, h3, h4, _⟩ := hot_ok ok e0
      obtain ⟨hF, xs, hx, _⟩ := h4
      refine ⟨.ref b, h3, .inl ⟨rfl, xs, SqL.of hx⟩, ba, F, ρ, _, ok, h, fun v y F1 ρ1 H1 ok1 s1 r1 q1 => ?_⟩
      obtain ⟨d, F2, ρ2, ok2, s2, hr, q2⟩ := frz_ok ok1 r1 q1
      split at q2
      · rename_i l e2
        obtain ⟨s', b', g1, g2, g3, g4, g5⟩ := hot_ok ok2 e2
        rw [h3] at g3; cases g3
        obtain ⟨hF', ys, hy, ry⟩ := g4
        obtain ⟨ok3, s3⟩ := ok2.write (o := .lst (ys ++ [v])) (c' := .lst (l ++ [d])) g1 g2 h3 fun H' e => ⟨hF', _, e, ry.append (.cons hr .nil)⟩
        rw [← g5] at ok3 s3
        exact ⟨b, ys, v, rfl, rfl, hy, by rw [ry.length]; exact q2.1, k .non (.imm .non) _ _ _ ok3 (s1.trans (s2.trans s3)) .non q2.2⟩
      · exact q2.elim
    · exact h.elim
theorem le_extend (hK : X.K = W.K) (ho : PE X (.Name x npos) (tVar i)) (he : PE X e (LE W te)) (hbase : attributeBase (.Name x npos) "extend" X.env (eval (.Name x npos) X.env) = eval (.Name x npos) X.env := by rfl)
    (hfew : ((backTo cpos (starEach [e] X.env)).all (fun x => !x.1) && (backToKw cpos (keywordEach [] X.env)).all (fun x => x.1.isSome)
      && decide ([e].length + ([] : List Keyword).length + (if ([] : List Keyword).isEmpty then 0 else 1) < 30)) = true := by rfl)
    (hline : (apos.endLine == cpos.line) = true := by rfl) (hs : starEach [e] X.env = (false, eval e X.env) :: starEach [] X.env := by rfl) (hplain : (backTo cpos (starEach [] X.env)).any (·.1) = false := by rfl) :
    PE X (.Call (.Attribute (.Name x npos) "extend" apos) [e] [] cpos) (LE W (dExtend i te)) :=
  (pe_bm PySem.F.plainAttrs_list PySem.F.slot_list_extend PySem.F.type_list_extend mt_extend ho (pa_cons he pa_nil hs) hbase hfew hline hs hplain).imp fun σ H Q ⟨ba, F, ρ, Q', ok, h, k⟩ => by
    unfold dExtend at h
    split at h
    · rename_i l0 e0
      obtain ⟨s, b, h1, h2, h3, h4, _⟩ := hot_ok ok e0
      obtain ⟨hF, xs, hx, _⟩ := h4
      refine ⟨.ref b, h3, .inl ⟨rfl, xs, SqL.of hx⟩, ba, F, ρ, _, ok, h, fun v y F1 ρ1 H1 ok1 s1 r1 q1 => ?_⟩
      obtain ⟨d, F2, ρ2, ok2, s2, hr, q2⟩ := frz_ok ok1 r1 q1
      split at q2
      · rename_i l m e2
        obtain ⟨s', b', g1, g2, g3, g4, g5⟩ := hot_ok ok2 e2
        rw [h3] at g3; cases g3
        obtain ⟨hF', ys, hy, ry⟩ := g4
        cases hr with
        | @lst c zs es hc rz =>
          obtain ⟨ok3, s3⟩ := ok2.write (o := .lst (ys ++ zs)) (c' := .lst (l ++ m)) g1 g2 h3 fun H' e => ⟨hF', _, e, ry.append rz⟩
          rw [← g5] at ok3 s3
          exact ⟨b, c, ys, zs, rfl, rfl, hy, ok2.le.at hc fun z => z, by rw [ry.length, rz.length]; exact q2.1, k .non (.imm .non) _ _ _ ok3 (s1.trans (s2.trans s3)) .non q2.2⟩
      · exact q2.elim
    · exact h.elim
end
/-- x[k] = d -/
def storeD (nw : Bool) (c : Cell) (k d : D) : Option Cell := match c, k with
  | .lst l, .int j => (ixN l.length j).map fun n => .lst (l.set n d)
  | .dK l, .int j => if l.length < sizeLine then some (.dK (dput l (.inl j) d)) else none
  | .dK l, .str x => if l.length < sizeLine then some (.dK (dput l (.inr x) d)) else none
  | .dT l, .tup ks => if l.length < sizeLine ∧ (nw = true ∨ ks.length ≠ 2) then (keysD ks).map fun q => .dT (dput l q d) else none
  | _, _ => none
def sStore (nw : Bool) (i : Nat) (te tk : WPE) : WPS := fun D ρ => te ρ fun x ρ1 => match hotAt ρ1 i with
  | some _ => tk ρ1 fun y ρ2 => frz x ρ2 fun d ρ3 => look ρ3 y fun kd => match hotAt ρ3 i with
    | some c => match storeD nw c kd d with
      | some c' => D.nx (putAt ρ3 i c')
      | none => False
    | none => False
  | none => False
abbrev rSetA : TSet := fun o i v H Q => rSetL o i v H Q ∨ ∃ a H4, o = .ref a ∧ DPut H a i v H4 ∧ Q H4
theorem set_any {X : Cx} (hu : X.A.units + 1 < cLine) : PSet X rSetA := by
  intro pins s σ H o i v ov iv u Q I ro ri rv h
  rcases h with h | ⟨a, H4, rfl, g, q⟩
  · exact set_list pins s σ H o i v ov iv u Q I ro ri rv h
  · cases ro
    exact d_setItem hu I g ri rv fun s' I' => ⟨H4, I', q⟩
theorem ls_store {X : Cx} {nw : Bool} {e ke : Expr} {te tk : WPE} {x : Str} {npos pos' pos : Pos} {i : Nat} (hw : nw = true → W.nw = true) (hu : X.A.units + 1 < cLine) (ho : PE X (.Name x npos) (tVar i)) (he : PE X e (LE W te)) (hk : PE X ke (LE W tk))
    (ha : ∀ v, assign (.Subscript (.Name x npos) ke pos') X.env v = (do
      let ov ← holding [v] (eval (.Name x npos) X.env)
      let iv ← holding [v, ov] (eval ke X.env)
      standAt pos'
      holding [v, ov, iv] (setItem ov iv v)
      release [v, ov, iv] []) := by intro _; rfl)
    (hs : swapsWithSole [.Subscript (.Name x npos) ke pos'] e pos.line X.env = pure false := by rfl) (hsw : swappedStores [.Subscript (.Name x npos) ke pos'] e X.env = pure none := by rfl)
    (h1 : (assignEach [.Subscript (.Name x npos) ke pos'] X.env).map (·.2) = [assign (.Subscript (.Name x npos) ke pos') X.env] := by rfl) :
    PS X (.Assign [.Subscript (.Name x npos) ke pos'] e pos) (LS W (sStore nw i te tk)) :=
  (ps_asg he (pg_sub ho hk (set_any hu) ha) hs hsw h1).imp fun D σ H ⟨ba, F, ρ, D', ok, h, k⟩ => by
    refine ⟨ba, F, ρ, _, ok, h, fun v x F1 ρ1 H1 ok1 s1 r1 q1 => ?_⟩
    -- the place's name is read between: it says what slot i holds at the end
    split at q1
    case h_2 => exact q1.elim
    rename_i c0 hc0
    obtain ⟨_, b, _, _, hb, _, _⟩ := hot_ok ok1 hc0
    exact ⟨.ref b, hb, ba, F1, ρ1, _, ok1, q1, fun w y F2 ρ2 H2 ok2 s2 r2 q2 => by
      obtain ⟨d, F3, ρ3, ok3, s3, hr, q3⟩ := frz_ok ok2 (r1.mono s2.f) q2
      obtain ⟨kd, hkd, q4⟩ := look_ok ok3 (r2.mono s3.f) q3
      split at q4
      · rename_i c hc
        split at q4
        · rename_i c' hc'
          obtain ⟨s, b', g1, g2, g3, g4, g5⟩ := hot_ok ok3 hc
          rw [hb] at g3; cases g3
          rw [g5] at q4
          have fin : ∀ o, (∀ H', H' b = some o → CellOk W F3 H' b c') → D.nx σ (upd H2 b o) := fun o hh => by
            obtain ⟨ok5, s5⟩ := ok3.write (o := o) (c' := c') g1 g2 hb hh
            exact k.nx _ _ _ _ ok5 (s1.trans (s2.trans (s3.trans s5))) q4
          unfold storeD at hc'
          split at hc'
          · obtain ⟨n, hn, e⟩ := Option.map_eq_some_iff.mp hc'
            subst e
            cases hkd
            obtain ⟨hF, ys, hy, ry⟩ := g4
            exact .inl ⟨b, ys, _, n, rfl, rfl, hy, by rw [ry.length]; exact hn, fin _ fun H' e => ⟨hF, _, e, ry.set n hr⟩⟩
          · split at hc'
            · rename_i hz
              cases hc'; cases hkd
              obtain ⟨hF, ys, hy, ry⟩ := g4
              exact .inr ⟨b, _, rfl, .inl ⟨ys, .inl _, hy, rfl, by rw [ry.length]; exact hz, rfl⟩, fin _ fun H' e => ⟨hF, _, e, ry.put _ hr⟩⟩
            · cases hc'
          · split at hc'
            · rename_i hz
              cases hc'; cases hkd
              obtain ⟨hF, ys, hy, ry⟩ := g4
              exact .inr ⟨b, _, rfl, .inl ⟨ys, .inr _, hy, rfl, by rw [ry.length]; exact hz, rfl⟩, fin _ fun H' e => ⟨hF, _, e, ry.put _ hr⟩⟩
            · cases hc'
          · split at hc'
            · rename_i hz
              obtain ⟨q, h6, e⟩ := Option.map_eq_some_iff.mp hc'
              subst e
              obtain ⟨b2, zs, rfl, h8, h9, h10⟩ := hkd
              have e2 := keysD_ok h6 h10
              have hb2 := key_tracked hw ok3.le hz.2 h8 h10.length
              rw [e2] at hb2
              obtain ⟨hF, ys, hy, ry⟩ := g4
              exact .inr ⟨b, _, rfl, .inr ⟨ys, q, b2, hy, rfl, hb2, by rw [ry.length]; exact hz.1, rfl⟩, fin _ fun H' e => ⟨hF, _, e, ry.put _ hr⟩⟩
            · cases hc'
          · cases hc'
        · exact q4.elim
      · exact q4.elim⟩
end DL

set_option Elab.async false
set_option linter.all false
set_option maxRecDepth 100000
set_option maxHeartbeats 2000000
/-! DL: attributes stored, calls, defs -/
namespace DL
open PySem L2 PySem.Spec PyProof.Rows
variable {W : Wd} {ba : Nat → Addr} {F F1 F' H H1 H' : Hp} {ρ ρ1 ρ' : Env} {σ σ' : L2.St}

/-! ### o.f = e of a thing that a slot owns -/
def putFD (f : Str) (d : D) : List (Str × D) → List (Str × D)
  | [] => [(f, d)]
  | (g, x) :: r => if g = f then (g, d) :: r else (g, x) :: putFD f d r
theorem RepF.put {xs : List (Str × V)} {ds : List (Str × D)} (h : RepF W F xs ds) (f : Str) {v : V} {d : D} (r : Rep W F v d) : RepF W F (putF f v xs) (putFD f d ds) := by
  induction ds generalizing xs with
  | nil => cases h; exact .cons r .nil
  | cons d' ds ih =>
    cases h with
    | @cons k v' vs d'' ds a q =>
      show RepF W F (if k = f then (k, v) :: vs else (k, v') :: putF f v vs) (if k = f then (k, d) :: ds else (k, d'') :: putFD f d ds)
      by_cases e : k = f
      · rw [if_pos e, if_pos e]; exact .cons r q
      · rw [if_neg e, if_neg e]; exact .cons a (ih q)
theorem RepF.length {xs : List (Str × V)} {ds : List (Str × D)} (h : RepF W F xs ds) : xs.length = ds.length := by
  induction ds generalizing xs with
  | nil => cases h; rfl
  | cons d ds ih => cases h with | cons _ r => simp [ih r]
def sFldD (c : Nat) (i : Nat) (f : Str) (te : WPE) : WPS := fun D ρ => te ρ fun x ρ1 => frz x ρ1 fun d ρ2 => match hotAt ρ2 i with
  | some (.ins c' fs) => c' = c ∧ fs.length < 1000 ∧ D.nx (putAt ρ2 i (.ins c' (putFD f d fs)))
  | _ => False
theorem ls_fld {X : Cx} {c i : Nat} {f x : Str} {e : Expr} {te : WPE} {npos pos' pos : Pos} (hK : X.K = W.K) (hc : Cls W.K (W.cls c)) (hn : NoAttr W.K (W.cls c) f) (ho : PE X (.Name x npos) (tVar i)) (he : PE X e (LE W te))
    (hs : swapsWith e (some (.Attribute (.Name x npos) f pos')) pos.line X.env = pure false := by rfl) : PS X (.Assign [.Attribute (.Name x npos) f pos'] e pos) (LS W (sFldD c i f te)) :=
  (ps_fld ho he hs).imp fun D σ H ⟨ba, F, ρ, D', ok, h, k⟩ => by
    refine ⟨ba, F, ρ, _, ok, h, fun v y F1 ρ1 H1 ok1 s1 r1 q1 => ?_⟩
    obtain ⟨d, F2, ρ2, ok2, s2, hr, q2⟩ := frz_ok ok1 r1 q1
    split at q2
    · rename_i c' fs e2
      obtain ⟨e3, hz, q3⟩ := q2
      subst e3
      obtain ⟨s, b, g1, g2, g3, g4, g5⟩ := hot_ok ok2 e2
      obtain ⟨hF, dx, ys, hy, ry⟩ := g4
      obtain ⟨ok3, s3⟩ := ok2.write (o := .ins (W.cls c') dx (putF f v ys)) (c' := .ins c' (putFD f d fs)) g1 g2 g3 fun H' e => ⟨hF, dx, _, e, ry.put f hr⟩
      rw [← g5] at ok3 s3
      exact ⟨.ref b, g3, b, _, dx, ys, rfl, hy, by rw [hK]; exact hc, by rw [hK]; exact hn, by rw [ry.length]; exact hz, k.nx _ _ _ _ ok3 (s1.trans (s2.trans s3)) q3⟩
    · exact q2.elim
/-- d.clear() -/
def dClear (i : Nat) : WPE := fun ρ Q => match hotAt ρ i with
  | some (.dK _) => Q (.imm .non) (putAt ρ i (.dK []))
  | _ => False
theorem le_clear {X : Cx} {x : Str} {npos apos cpos : Pos} {i : Nat} (hK : X.K = W.K) (ho : PE X (.Name x npos) (tVar i)) (hbase : attributeBase (.Name x npos) "clear" X.env (eval (.Name x npos) X.env) = eval (.Name x npos) X.env := by rfl) (hline : (apos.endLine == cpos.line) = true := by rfl) :
    PE X (.Call (.Attribute (.Name x npos) "clear" apos) [] [] cpos) (LE W (dClear i)) := (pe_dclear ho hbase hline).imp fun σ H Q ⟨ba, F, ρ, Q', ok, h, k⟩ => by
  unfold dClear at h
  split at h
  · rename_i l e
    obtain ⟨s, b, g1, g2, g3, g4, g5⟩ := hot_ok ok e
    obtain ⟨hF, ys, hy, ry⟩ := g4
    obtain ⟨ok3, s3⟩ := ok.write (o := .dK []) (c' := .dK []) g1 g2 g3 fun H' e => ⟨hF, [], e, .nil⟩
    rw [← g5] at ok3 s3
    exact ⟨.ref b, g3, .inr (.inr (.inl ⟨rfl, .inl ⟨ys, hy⟩⟩)), b, ys, rfl, rfl, hy, k .non (.imm .non) _ _ _ ok3 s3 .non h⟩
  · exact h.elim

/-! ### what a def promises -/
/-- data from data -/
def spP (W : Wd) (m : List D → D → Prop) : Sp := fun vs H Q _ => ∃ F ds r, LeR F H ∧ RepL W F vs ds ∧ m ds r ∧ ∀ v F' H', LeR F' H' → Step F (fun _ => False) H F' (fun _ => False) H' → Rep W F' v r → Q v H'
/-- a new thing from data -/
def spN (W : Wd) (m : List D → Cell → Prop) : Sp := fun vs H Q _ => ∃ F ds c, LeR F H ∧ RepL W F vs ds ∧ m ds c ∧ ∀ a F' H', LeR F' H' → Step F (fun _ => False) H F' (fun b => b = a) H' → CellOk W F' H' a c → Q (.ref a) H'
/-- the first argument is a thing that is changed -/
def spT (W : Wd) (m : Cell → List D → D → Cell → Prop) : Sp := fun vs H Q _ => ∃ F b vs' c ds r c', vs = .ref b :: vs' ∧ LeR F H ∧ CellOk W F H b c ∧ RepL W F vs' ds ∧ m c ds r c' ∧
  ∀ v F' H', LeR F' H' → Step F (fun a => a = b) H F' (fun a => a = b) H' → CellOk W F' H' b c' → Rep W F' v r → Q v H'
/-- .. and the answer is a new thing -/
def spTN (W : Wd) (m : Cell → List D → Cell → Cell → Prop) : Sp := fun vs H Q _ => ∃ F b vs' c ds r c', vs = .ref b :: vs' ∧ LeR F H ∧ CellOk W F H b c ∧ RepL W F vs' ds ∧ m c ds r c' ∧
  ∀ a F' H', LeR F' H' → Step F (fun a => a = b) H F' (fun x => x = b ∨ x = a) H' → a ≠ b → CellOk W F' H' b c' → CellOk W F' H' a r → Q (.ref a) H'
def dCallP (m : List D → D → Prop) (ts : WPA) : WPE := fun ρ Q => ts ρ fun xs ρ1 => frzL xs ρ1 fun ds ρ2 => ∃ r, m ds r ∧ Q (.imm r) ρ2
def dCallN (m : List D → Cell → Prop) (ts : WPA) : WPN := fun ρ Q => ts ρ fun xs ρ1 => frzL xs ρ1 fun ds ρ2 => ∃ c, m ds c ∧ Q c ρ2
def dCallT (m : Cell → List D → D → Cell → Prop) (ts : WPA) : WPE := fun ρ Q => ts ρ fun xs ρ1 => match xs with
  | .slot i :: ys => frzL ys ρ1 fun ds ρ2 => match hotAt ρ2 i with
    | some c => ∃ r c', m c ds r c' ∧ Q (.imm r) (putAt ρ2 i c')
    | none => False
  | _ => False
def dCallTN (m : Cell → List D → Cell → Cell → Prop) (ts : WPA) : WPN := fun ρ Q => ts ρ fun xs ρ1 => match xs with
  | .slot i :: ys => frzL ys ρ1 fun ds ρ2 => match hotAt ρ2 i with
    | some c => ∃ r c', m c ds r c' ∧ Q r (putAt ρ2 i c')
    | none => False
  | _ => False
theorem callP_ok {m : List D → D → Prop} {E : XK} {vs : List V} {xs : List Val} {Q' : Val → Env → Prop} {Q : VK} (ok : Ok W ba F ρ σ H) (r : Paired (VR W F σ) vs xs) (h : frzL xs ρ fun ds ρ2 => ∃ r, m ds r ∧ Q' (.imm r) ρ2) (k : Kont W ba F ρ σ H Q' Q) :
    spP W m vs H Q E := by
  obtain ⟨ds, F2, ρ2, ok2, s2, hr, d, hm, q⟩ := frzL_ok ok r h
  exact ⟨F2, ds, d, ok2.le, hr, hm, fun v F3 H3 le3 s3 r3 => k v (.imm d) F3 ρ2 H3 (ok2.after le3 s3) (s2.trans s3.keep) r3 q⟩
theorem callN_ok {m : List D → Cell → Prop} {E : XK} {vs : List V} {xs : List Val} {Q' : Cell → Env → Prop} {Q : VK} (ok : Ok W ba F ρ σ H) (r : Paired (VR W F σ) vs xs) (h : frzL xs ρ fun ds ρ2 => ∃ c, m ds c ∧ Q' c ρ2) (k : KontN W ba F ρ σ H Q' Q) :
    spN W m vs H Q E := by
  obtain ⟨ds, F2, ρ2, ok2, s2, hr, c, hm, q⟩ := frzL_ok ok r h
  refine ⟨F2, ds, c, ok2.le, hr, hm, fun a F3 H3 le3 s3 r3 => ?_⟩
  have fresh : H a = none := by
    rcases s3.no a rfl with z | z
    · exact z.elim
    · exact z
  exact k a c F3 ρ2 H3 (ok2.after le3 s3) (s2.trans (s3.more fun b z => z.imp id fun z => by subst z; exact fresh)) r3 (Own.ne_fresh ok2 fresh) q
theorem callT_ok {m : Cell → List D → D → Cell → Prop} {E : XK} {v0 : V} {vs : List V} {i : Nat} {xs : List Val} {Q' : Val → Env → Prop} {Q : VK} (ok : Ok W ba F ρ σ H) (h0 : σ[i]? = some (some v0)) (r : Paired (VR W F σ) vs xs)
    (h : frzL xs ρ fun ds ρ2 => match hotAt ρ2 i with | some c => ∃ r c', m c ds r c' ∧ Q' (.imm r) (putAt ρ2 i c') | none => False) (k : Kont W ba F ρ σ H Q' Q) : spT W m (v0 :: vs) H Q E := by
  obtain ⟨ds, F2, ρ2, ok2, s2, hr, q⟩ := frzL_ok ok r h
  split at q
  · rename_i c hc
    obtain ⟨d, c', hm, q⟩ := q
    obtain ⟨s, b, g1, g2, g3, g4, g5⟩ := hot_ok ok2 hc
    rw [h0] at g3; cases g3
    refine ⟨F2, b, vs, c, ds, d, c', rfl, ok2.le, g4, hr, hm, fun v F3 H3 le3 s3 r3 rv => ?_⟩
    obtain ⟨ok3, s4⟩ := ok2.mutate g1 g2 h0 le3 s3 r3
    rw [← g5] at ok3 s4
    exact k v (.imm d) F3 _ H3 ok3 (s2.trans s4) rv q
  · exact q.elim
theorem callTN_ok {m : Cell → List D → Cell → Cell → Prop} {E : XK} {v0 : V} {vs : List V} {i : Nat} {xs : List Val} {Q' : Cell → Env → Prop} {Q : VK} (ok : Ok W ba F ρ σ H) (h0 : σ[i]? = some (some v0)) (r : Paired (VR W F σ) vs xs)
    (h : frzL xs ρ fun ds ρ2 => match hotAt ρ2 i with | some c => ∃ r c', m c ds r c' ∧ Q' r (putAt ρ2 i c') | none => False) (k : KontN W ba F ρ σ H Q' Q) : spTN W m (v0 :: vs) H Q E := by
  obtain ⟨ds, F2, ρ2, ok2, s2, hr, q⟩ := frzL_ok ok r h
  split at q
  · rename_i c hc
    obtain ⟨d, c', hm, q⟩ := q
    obtain ⟨s, b, g1, g2, g3, g4, g5⟩ := hot_ok ok2 hc
    rw [h0] at g3; cases g3
    refine ⟨F2, b, vs, c, ds, d, c', rfl, ok2.le, g4, hr, hm, fun a F3 H3 le3 s3 nab r3 rv => ?_⟩
    have fresh : H a = none := by
      rcases s3.no a (.inr rfl) with z | z
      · exact (nab z).elim
      · exact z
    obtain ⟨ok3, s4⟩ := ok2.mutate g1 g2 h0 le3 ⟨s3.f, s3.h, s3.nf, fun a z => .inl z⟩ r3
    rw [← g5] at ok3 s4
    have nO : ¬ Own (putAt ρ2 i c') σ a := fun z => by
      rw [g5] at z
      exact Own.ne_fresh ok2 fresh (Own.set g1 (fun _ => g2) z)
    refine k a d F3 _ H3 ok3 (s2.trans ⟨s4.f, s4.h, s4.nf, fun x z => ?_⟩) rv nO q
    rcases z with z | z
    · exact s4.no x z
    · subst z; exact .inr fresh
  · exact q.elim

/-! ### calls by name, methods, making -/
section
variable {X : Cx} {k : Nat} {f C : Addr} {fd : FuncData} {ps : List Str} {x m' : Str} {p pos apos : Pos} {e o : Expr} {es : List Expr} {ts : WPA} {to : WPE}
theorem la_ok {E : XK} {sp : Sp} {Q : VK} {Q' : List Val → Env → Prop} (h : ∃ ba F ρ, Ok W ba F ρ σ H ∧ ts ρ Q' ∧ ∀ vs xs F' ρ' H', Ok W ba F' ρ' σ H' → Step F (Own ρ σ) H F' (Own ρ' σ) H' → Paired (VR W F' σ) vs xs → Q' xs ρ' → sp vs H' Q E) : tCall sp [] E (LA W ts) σ H Q := by
  obtain ⟨ba, F, ρ, ok, h, k⟩ := h
  exact ⟨ba, F, ρ, Q', ok, h, fun vs xs F' ρ' H' ok' s r q => by show sp (vs ++ []) H' Q E; rw [List.append_nil]; exact k vs xs F' ρ' H' ok' s r q⟩
theorem le_callP {m : List D → D → Prop} (G : FnOk X.prog X.w X.K X.mg X.base CX0 k f fd ps (spP W m)) (hr : Room k X.A) (hg : Gl X x) (hm : X.mg x = some (.ref f)) (hk : PySem.W.keepIn X.K (.ref f) = true) (hb : Binds X.K fd ps [])
    (ha : PA X (e :: es) (LA W ts)) (hdb : (x == ("__debug__" : Str)) = false := by decide) (he : starEach (e :: es) X.env = (false, eval e X.env) :: starEach es X.env := by rfl) (hpl : (backTo pos (starEach es X.env)).any (·.1) = false := by rfl) :
    PE X (.Call (.Name x p) (e :: es) [] pos) (LE W (dCallP m ts)) := (pe_call G hr hg hm hk hb .nil L2.pass0 ha hdb he hpl).imp fun σ H Q ⟨ba, F, ρ, Q', ok, h, k⟩ =>
  la_ok ⟨ba, F, ρ, ok, h, fun vs xs F1 ρ1 H1 ok1 s1 r1 q1 => callP_ok ok1 r1 q1 (k.step s1)⟩
theorem ln_callN {m : List D → Cell → Prop} (G : FnOk X.prog X.w X.K X.mg X.base CX0 k f fd ps (spN W m)) (hr : Room k X.A) (hg : Gl X x) (hm : X.mg x = some (.ref f)) (hk : PySem.W.keepIn X.K (.ref f) = true) (hb : Binds X.K fd ps [])
    (ha : PA X (e :: es) (LA W ts)) (hdb : (x == ("__debug__" : Str)) = false := by decide) (he : starEach (e :: es) X.env = (false, eval e X.env) :: starEach es X.env := by rfl) (hpl : (backTo pos (starEach es X.env)).any (·.1) = false := by rfl) :
    PE X (.Call (.Name x p) (e :: es) [] pos) (LN W (dCallN m ts)) := (pe_call G hr hg hm hk hb .nil L2.pass0 ha hdb he hpl).imp fun σ H Q ⟨ba, F, ρ, Q', ok, h, k⟩ =>
  la_ok ⟨ba, F, ρ, ok, h, fun vs xs F1 ρ1 H1 ok1 s1 r1 q1 => callN_ok ok1 r1 q1 (k.step s1)⟩
theorem le_callT {m : Cell → List D → D → Cell → Prop} (G : FnOk X.prog X.w X.K X.mg X.base CX0 k f fd ps (spT W m)) (hr : Room k X.A) (hg : Gl X x) (hm : X.mg x = some (.ref f)) (hk : PySem.W.keepIn X.K (.ref f) = true) (hb : Binds X.K fd ps [])
    (ha : PA X (e :: es) (LA W ts)) (hdb : (x == ("__debug__" : Str)) = false := by decide) (he : starEach (e :: es) X.env = (false, eval e X.env) :: starEach es X.env := by rfl) (hpl : (backTo pos (starEach es X.env)).any (·.1) = false := by rfl) :
    PE X (.Call (.Name x p) (e :: es) [] pos) (LE W (dCallT m ts)) := (pe_call G hr hg hm hk hb .nil L2.pass0 ha hdb he hpl).imp fun σ H Q ⟨ba, F, ρ, Q', ok, h, k⟩ =>
  la_ok ⟨ba, F, ρ, ok, h, fun vs xs F1 ρ1 H1 ok1 s1 r1 q1 => by
    split at q1
    · cases r1 with
      | cons a r => exact callT_ok ok1 a r q1 (k.step s1)
    · exact q1.elim⟩
theorem ln_callTN {m : Cell → List D → Cell → Cell → Prop} (G : FnOk X.prog X.w X.K X.mg X.base CX0 k f fd ps (spTN W m)) (hr : Room k X.A) (hg : Gl X x) (hm : X.mg x = some (.ref f)) (hk : PySem.W.keepIn X.K (.ref f) = true) (hb : Binds X.K fd ps [])
    (ha : PA X (e :: es) (LA W ts)) (hdb : (x == ("__debug__" : Str)) = false := by decide) (he : starEach (e :: es) X.env = (false, eval e X.env) :: starEach es X.env := by rfl) (hpl : (backTo pos (starEach es X.env)).any (·.1) = false := by rfl) :
    PE X (.Call (.Name x p) (e :: es) [] pos) (LN W (dCallTN m ts)) := (pe_call G hr hg hm hk hb .nil L2.pass0 ha hdb he hpl).imp fun σ H Q ⟨ba, F, ρ, Q', ok, h, k⟩ =>
  la_ok ⟨ba, F, ρ, ok, h, fun vs xs F1 ρ1 H1 ok1 s1 r1 q1 => by
    split at q1
    · cases r1 with
      | cons a r => exact callTN_ok ok1 a r q1 (k.step s1)
    · exact q1.elim⟩
/-- C(..): __init__ changes the new instance -/
def dMake (c : Nat) (m : Cell → List D → D → Cell → Prop) (ts : WPA) : WPN := fun ρ Q => ts ρ fun xs ρ1 => frzL xs ρ1 fun ds ρ2 => ∃ c', m (.ins c []) ds .non c' ∧ Q c' ρ2
theorem ln_make {m : Cell → List D → D → Cell → Prop} {c : Nat} (M : Mk X.K (W.cls c) f) (G : FnOk X.prog X.w X.K X.mg X.base CX0 k f fd ps (spT W m)) (hr : Room (k + 1) X.A) (hg : Gl X x) (hm : X.mg x = some (.ref (W.cls c))) (hb : Binds X.K fd ps [])
    (ha : PA X (e :: es) (LA W ts)) (hdb : (x == ("__debug__" : Str)) = false := by decide) (he : starEach (e :: es) X.env = (false, eval e X.env) :: starEach es X.env := by rfl) (hpl : (backTo pos (starEach es X.env)).any (·.1) = false := by rfl) :
    PE X (.Call (.Name x p) (e :: es) [] pos) (LN W (dMake c m ts)) := (pe_make M G hr hg hm hb .nil L2.pass0 ha hdb he hpl).imp fun σ H Q ⟨ba, F, ρ, Q', ok, h, k⟩ => by
  refine ⟨ba, F, ρ, _, ok, h, fun vs xs F1 ρ1 H1 ok1 s1 r1 q1 x dx hx hdx ne => ?_⟩
  rw [List.append_nil]
  obtain ⟨ds, F2, ρ2, ok2, s2, hr2, c', hm2, q2⟩ := frzL_ok ok1 r1 q1
  obtain ⟨l1, t1⟩ := fresh_H (o := .own x) ok2.le hdx
  have hx' : upd H1 dx (.own x) x = none := by rw [upd_ne (Ne.symm ne)]; exact hx
  obtain ⟨l2, t2⟩ := fresh_H (o := .ins (W.cls c) dx []) l1 hx'
  have t12 : Step F2 (fun _ => False) H1 F2 (fun b => b = x) (upd (upd H1 dx (.own x)) x (.ins (W.cls c) dx [])) := by
    refine ⟨LeF.refl _, fun a o e n => ?_, fun a o e n => (by rw [n] at e; cases e), fun a z => .inr (by rw [z]; exact hx)⟩
    have n1 : a ≠ x := ne_of_none e hx
    have n2 : a ≠ dx := ne_of_none e hdx
    rw [upd_ne n1, upd_ne n2]; exact e
  refine ⟨F2, x, vs, .ins c [], ds, .non, c', rfl, l2, ⟨ok2.le.none hx, dx, [], upd_same, .nil⟩, hr2, hm2, fun v F3 H3 le3 s3 r3 rv => ?_⟩
  cases rv
  refine ⟨rfl, ?_⟩
  have t13 : Step F2 (fun _ => False) H1 F3 (fun b => b = x) H3 := t12.trans s3
  exact k x c' F3 ρ2 H3 (ok2.after le3 t13) (s1.trans (s2.trans (t13.more fun a z => z.imp id fun z => by subst z; exact hx))) r3 (Own.ne_fresh ok2 hx) q2
end
end DL

set_option Elab.async false
set_option linter.all false
set_option maxRecDepth 100000
set_option maxHeartbeats 2000000
/-! DL: defs by their bodies -/
namespace DL
open PySem L2 PySem.Spec PyProof.Rows
variable {W : Wd} {ba : Nat → Addr} {F F1 F' H H1 H' : Hp} {ρ ρ1 ρ' : Env} {σ σ' : L2.St}

def startD (n : Nat) (ds : List D) : Env := ds.map (fun d => some (.imm d)) ++ List.replicate (n - ds.length) none
def startT (n : Nat) (c : Cell) (ds : List D) : Env := some (.brw 0 c) :: startD (n - 1) ds
theorem startD_some {n : Nat} {ds : List D} {i : Nat} {s : SV} (h : (startD n ds)[i]? = some (some s)) : ∃ d, ds[i]? = some d ∧ s = .imm d := by
  unfold startD at h
  by_cases hi : i < ds.length
  · rw [List.getElem?_append_left (by simpa using hi), List.getElem?_map] at h
    obtain ⟨d, h1, h2⟩ := Option.map_eq_some_iff.mp h
    cases h2
    exact ⟨d, h1, rfl⟩
  · rw [List.getElem?_append_right (by simpa using hi), List.getElem?_replicate] at h
    split at h <;> cases h
theorem start_get {N : List Str} {vs : List V} {i : Nat} {v : V} (h : vs[i]? = some v) : (L2.start N vs)[i]? = some (some v) := by
  unfold L2.start
  have hi : i < vs.length := (List.getElem?_eq_some_iff.mp h).1
  rw [List.getElem?_append_left (by simpa using hi), List.getElem?_map, h]; rfl
theorem ok_startD {N : List Str} {vs : List V} {ds : List D} (le : LeR F H) (hr : RepL W F vs ds) : Ok W ba F (startD N.length ds) (L2.start N vs) H ∧ ∀ a, ¬ Own (startD N.length ds) (L2.start N vs) a := by
  refine ⟨⟨?_, le, fun i s hi => ?_, fun i j s s' a hi hj z z' _ _ => ?_⟩, fun a ⟨i, s, hi, z, _⟩ => ?_⟩
  · unfold startD L2.start; simp [hr.length]
  · obtain ⟨d, h1, h2⟩ := startD_some hi
    subst h2
    obtain ⟨v, h3, h4⟩ := hr.get h1
    exact ⟨v, start_get h3, h4⟩
  · obtain ⟨d, h1, h2⟩ := startD_some hi
    subst h2; exact z.elim
  · obtain ⟨d, h1, h2⟩ := startD_some hi
    subst h2; exact z.elim
theorem ok_startT {N : List Str} {b : Addr} {c : Cell} {vs : List V} {ds : List D} (hN : 0 < N.length) (le : LeR F H) (hc : CellOk W F H b c) (hr : RepL W F vs ds) :
    Ok W (fun _ => b) F (startT N.length c ds) (L2.start N (.ref b :: vs)) H ∧ ∀ a, Own (startT N.length c ds) (L2.start N (.ref b :: vs)) a ↔ a = b := by
  have s0 : (L2.start N (.ref b :: vs))[0]? = some (some (.ref b)) := start_get rfl
  have at_ : ∀ {i : Nat} {s : SV}, (startT N.length c ds)[i]? = some (some s) → (i = 0 ∧ s = .brw 0 c) ∨ ∃ d j, i = j + 1 ∧ ds[j]? = some d ∧ s = .imm d := fun {i s} h => by
    cases i with
    | zero => simp [startT] at h; exact .inl ⟨rfl, h.symm⟩
    | succ j =>
      simp [startT] at h
      obtain ⟨d, h1, h2⟩ := startD_some h
      exact .inr ⟨d, j, rfl, h1, h2⟩
  refine ⟨⟨?_, le, fun i s hi => ?_, fun i j s s' a hi hj z z' _ _ => ?_⟩, fun a => ⟨fun ⟨i, s, hi, z, e⟩ => ?_, fun z => ⟨0, .brw 0 c, rfl, True.intro, by rw [z]; exact s0⟩⟩⟩
  · unfold startT startD L2.start
    simp [hr.length]
    omega
  · rcases at_ hi with ⟨e1, e2⟩ | ⟨d, j, e1, e2, e3⟩
    · subst e1 e2; exact ⟨_, s0, rfl, hc⟩
    · subst e1 e3
      obtain ⟨v, h3, h4⟩ := hr.get e2
      exact ⟨v, start_get (by simpa using h3), h4⟩
  · rcases at_ hi with ⟨e1, e2⟩ | ⟨d, k, e1, e2, e3⟩
    · rcases at_ hj with ⟨e1', e2'⟩ | ⟨d, k, e1', e2', e3'⟩
      · rw [e1, e1']
      · subst e3'; exact z'.elim
    · subst e3; exact z.elim
  · rcases at_ hi with ⟨e1, e2⟩ | ⟨d, j, e1, e2, e3⟩
    · subst e1; rw [s0] at e; cases e; rfl
    · subst e3; exact z.elim
def endsP (r : D) : DEnds := { nx := fun _ => r = .non, rt := fun x ρ => frz x ρ fun d _ => d = r, rn := fun c _ => c.toD = r }
def endsN (c : Cell) : DEnds := { nx := fun _ => False, rt := fun x ρ => match x with | .slot i => ρ[i]? = some (some (.own c)) | _ => False, rn := fun c' _ => c' = c }
def endsT (r : D) (c' : Cell) : DEnds := { nx := fun ρ => r = .non ∧ ρ[0]? = some (some (.brw 0 c')), rt := fun x ρ => frz x ρ fun d ρ1 => d = r ∧ ρ1[0]? = some (some (.brw 0 c')), rn := fun c ρ => c.toD = r ∧ ρ[0]? = some (some (.brw 0 c')) }
def endsTN (c c' : Cell) : DEnds := { nx := fun _ => False, rt := fun x ρ => (match x with | .slot i => ρ[i]? = some (some (.own c)) | _ => False) ∧ ρ[0]? = some (some (.brw 0 c')), rn := fun d ρ => d = c ∧ ρ[0]? = some (some (.brw 0 c')) }
section
variable {P : Program} {w : World} {K : PySem.W.Frag} {mg : Str → Option Value} {base : Heap} {x qual : Str} {st : Stmt} {f : Addr} {fd : FuncData} {N ps : List Str} {k : Nat}
abbrev BodyD (P : Program) (w : World) (W : Wd) (mg : Str → Option Value) (base : Heap) (k : Nat) (N : List Str) (qual : Str) (st : Stmt) (f : Addr) (tb : WPS) : Prop :=
  ∀ (cdv : Value) (A : Around) (outer : List PySem.Env) (s : Shared) (H : Hp) (E : XK), Room k (A.deeper (envOfC qual (defScope st) s.heap.objs.size f cdv)) → PSs (cxOf CX0 P w W.K mg base N qual (defScope st) f cdv A outer s H E).nox (defBody st) (LS W tb)
theorem fn_P {m : List D → D → Prop} {tb : WPS} (Fn : Fun W.K x qual st f fd) (S : FnScope N ps (defScope st)) (hl : ∀ ds r, m ds r → ds.length = ps.length) (hb : BodyD P w W mg base k N qual st f tb)
    (hm : ∀ ds r, m ds r → tb (endsP r) (startD N.length ds)) : FnOk P w W.K mg base CX0 (k + 1) f fd ps (spP W m) := by
  refine Fn.ok S (fun vs H Q E h => ?_) fun cdv A outer s H vs Q E hr h => ⟨_, hb cdv A outer s H E hr, ?_⟩
  · obtain ⟨F, ds, r, _, h1, h2, _⟩ := h
    rw [h1.length]; exact hl ds r h2
  · obtain ⟨F, ds, r, le, h1, h2, go⟩ := h
    obtain ⟨ok, no⟩ := ok_startD (ba := fun _ => 0) (N := N) le h1
    have wk : ∀ {F1 H1 O1}, Step F (Own (startD N.length ds) (L2.start N vs)) H F1 O1 H1 → Step F (fun _ => False) H F1 (fun _ => False) H1 := fun {F1 H1 O1} s =>
      ⟨s.f, fun a o e _ => s.h a o e (no a), fun a o e n => (s.nf a o e n).imp id (Or.imp (fun z => (no a z).elim) id), fun _ z => z.elim⟩
    refine ⟨fun _ => 0, F, _, endsP r, ok, hm ds r h2, ⟨fun F1 ρ1 σ1 H1 ok1 s1 q => ?_, fun _ _ _ _ _ _ q => q.elim, fun _ _ _ _ _ _ q => q.elim, fun v x F1 ρ1 σ1 H1 ok1 s1 r1 q => ?_, fun a c F1 ρ1 σ1 H1 ok1 s1 r1 n1 q => ?_⟩⟩
    · have q : r = .non := q
      subst q
      exact go .non F1 H1 ok1.le (wk s1) .non
    · have q : frz x ρ1 (fun d _ => d = r) := q
      obtain ⟨d, F2, ρ2, ok2, s2, hr2, e⟩ := frz_ok ok1 r1 q
      subst e
      exact go v F2 H1 ok2.le (wk (s1.trans s2)) hr2
    · have q : c.toD = r := q
      subst q
      obtain ⟨F2, ok2, s2, hr2, _⟩ := Ok.freezeNew (ρ := startD N.length ds) (σ := σ1) ok1 (F := F) (H := H) ⟨s1.f, fun a o e _ => s1.h a o e (no a), fun a o e n => (s1.nf a o e n).imp id (Or.imp (fun z => (no a z).elim) id), fun b z => (s1.no b z).elim (fun z => (no b z).elim) .inr⟩ r1 n1
      exact go _ F2 H1 ok2.le ⟨s2.f, fun a o e _ => s1.h a o e (no a), fun a o e n => (s2.nf a o e n).imp id (Or.imp (fun ⟨i, s, h1, h2, _⟩ => by obtain ⟨d, _, h4⟩ := startD_some h1; subst h4; exact h2.elim) id), fun _ z => z.elim⟩ hr2
theorem fn_N {m : List D → Cell → Prop} {tb : WPS} (Fn : Fun W.K x qual st f fd) (S : FnScope N ps (defScope st)) (hl : ∀ ds r, m ds r → ds.length = ps.length) (hb : BodyD P w W mg base k N qual st f tb)
    (hm : ∀ ds c, m ds c → tb (endsN c) (startD N.length ds)) : FnOk P w W.K mg base CX0 (k + 1) f fd ps (spN W m) := by
  refine Fn.ok S (fun vs H Q E h => ?_) fun cdv A outer s H vs Q E hr h => ⟨_, hb cdv A outer s H E hr, ?_⟩
  · obtain ⟨F, ds, r, _, h1, h2, _⟩ := h
    rw [h1.length]; exact hl ds r h2
  · obtain ⟨F, ds, c, le, h1, h2, go⟩ := h
    obtain ⟨ok, no⟩ := ok_startD (ba := fun _ => 0) (N := N) le h1
    have wk : ∀ {F1 H1 O1} {a : Addr}, Step F (Own (startD N.length ds) (L2.start N vs)) H F1 O1 H1 → O1 a → Step F (fun _ => False) H F1 (fun b => b = a) H1 := fun {F1 H1 O1 a} s ha =>
      ⟨s.f, fun a o e _ => s.h a o e (no a), fun a o e n => (s.nf a o e n).imp id (Or.imp (fun z => (no a z).elim) id), fun b z => by subst z; exact (s.no b ha).elim (fun z => (no b z).elim) .inr⟩
    refine ⟨fun _ => 0, F, _, endsN c, ok, hm ds c h2, ⟨fun F1 ρ1 σ1 H1 ok1 s1 q => q.elim, fun _ _ _ _ _ _ q => q.elim, fun _ _ _ _ _ _ q => q.elim, fun v x F1 ρ1 σ1 H1 ok1 s1 r1 q => ?_, fun a c' F1 ρ1 σ1 H1 ok1 s1 r1 n1 q => ?_⟩⟩
    · cases x with
      | imm d => exact (show False from q).elim
      | slot i =>
        have q : ρ1[i]? = some (some (.own c)) := q
        have r1 : σ1[i]? = some (some v) := r1
        obtain ⟨v', h3, a, e, h4⟩ := ok1.slots i _ q
        rw [r1] at h3; cases h3; subst e
        exact go a F1 H1 ok1.le (wk s1 ⟨i, _, q, True.intro, r1⟩) h4
    · have q : c' = c := q
      subst q
      exact go a F1 H1 ok1.le (wk s1 (.inr rfl)) r1
theorem fn_T {m : Cell → List D → D → Cell → Prop} {tb : WPS} (Fn : Fun W.K x qual st f fd) (S : FnScope N ps (defScope st)) (hl : ∀ c ds r c', m c ds r c' → ds.length + 1 = ps.length) (hN : 0 < N.length) (hb : BodyD P w W mg base k N qual st f tb)
    (hm : ∀ c ds r c', m c ds r c' → tb (endsT r c') (startT N.length c ds)) : FnOk P w W.K mg base CX0 (k + 1) f fd ps (spT W m) := by
  refine Fn.ok S (fun vs H Q E h => ?_) fun cdv A outer s H vs Q E hr h => ⟨_, hb cdv A outer s H E hr, ?_⟩
  · obtain ⟨F, b, vs', c, ds, r, c', e, _, _, h1, h2, _⟩ := h
    subst e
    rw [List.length_cons, h1.length]; exact hl c ds _ _ h2
  · obtain ⟨F, b, vs', c, ds, r, c', e, le, hc, h1, h2, go⟩ := h
    subst e
    obtain ⟨ok, ow⟩ := ok_startT (N := N) hN le hc h1
    have fin : ∀ {F1 ρ1 σ1 H1} {v : V}, Ok W (fun _ => b) F1 ρ1 σ1 H1 → Step F (Own (startT N.length c ds) (L2.start N (.ref b :: vs'))) H F1 (Own ρ1 σ1) H1 → ρ1[0]? = some (some (.brw 0 c')) → Rep W F1 v r → Q v H1 := fun {F1 ρ1 σ1 H1 v} ok1 s1 q hr => by
      obtain ⟨v', h3, e, h4⟩ := ok1.slots 0 _ q
      subst e
      exact go v F1 H1 ok1.le ⟨s1.f, fun a o e n => s1.h a o e fun z => n ((ow a).mp z), fun a o e n => (s1.nf a o e n).imp id (Or.imp (fun z => (ow a).mp z) id), fun a z => .inl z⟩ h4 hr
    refine ⟨fun _ => b, F, _, endsT r c', ok, hm c ds r c' h2, ⟨fun F1 ρ1 σ1 H1 ok1 s1 q => ?_, fun _ _ _ _ _ _ q => q.elim, fun _ _ _ _ _ _ q => q.elim, fun v x F1 ρ1 σ1 H1 ok1 s1 r1 q => ?_, fun a d F1 ρ1 σ1 H1 ok1 s1 r1 n1 q => ?_⟩⟩
    · obtain ⟨e, q⟩ := q
      subst e
      exact fin ok1 s1 q .non
    · have q : frz x ρ1 (fun d ρ1 => d = r ∧ ρ1[0]? = some (some (.brw 0 c'))) := q
      obtain ⟨d, F2, ρ2, ok2, s2, hr2, e, q2⟩ := frz_ok ok1 r1 q
      subst e
      exact fin ok2 (s1.trans s2) q2 hr2
    · obtain ⟨e, q⟩ := q
      subst e
      obtain ⟨o, ho, hle, hr2⟩ := r1.frozen ok1.le
      obtain ⟨v', h3, e, h4⟩ := ok1.slots 0 _ q
      subst e
      have nab : a ≠ b := fun z => n1 ⟨0, _, q, True.intro, by rw [h3, z]⟩
      have lf : LeF F1 (upd F1 a o) := LeF.new r1.free
      refine go _ (upd F1 a o) H1 hle ⟨s1.f.trans lf, fun x o e n => s1.h x o e fun z => n ((ow x).mp z), fun x u e n => ?_, fun a z => .inl z⟩ (h4.stay lf (by rw [upd_ne (Ne.symm nab)]; exact h4.free) fun _ h => h) hr2
      by_cases z : x = a
      · subst z; exact (s1.no x (.inr rfl)).elim (fun z => .inr (.inl ((ow x).mp z))) .inl
      · rw [upd_ne z] at e; exact (s1.nf x u e n).imp id (Or.imp (fun z => (ow x).mp z) id)
theorem fn_TN {m : Cell → List D → Cell → Cell → Prop} {tb : WPS} (Fn : Fun W.K x qual st f fd) (S : FnScope N ps (defScope st)) (hl : ∀ c ds r c', m c ds r c' → ds.length + 1 = ps.length) (hN : 0 < N.length) (hb : BodyD P w W mg base k N qual st f tb)
    (hm : ∀ c ds r c', m c ds r c' → tb (endsTN r c') (startT N.length c ds)) : FnOk P w W.K mg base CX0 (k + 1) f fd ps (spTN W m) := by
  refine Fn.ok S (fun vs H Q E h => ?_) fun cdv A outer s H vs Q E hr h => ⟨_, hb cdv A outer s H E hr, ?_⟩
  · obtain ⟨F, b, vs', c, ds, r, c', e, _, _, h1, h2, _⟩ := h
    subst e
    rw [List.length_cons, h1.length]; exact hl c ds _ _ h2
  · obtain ⟨F, b, vs', c, ds, r, c', e, le, hc, h1, h2, go⟩ := h
    subst e
    obtain ⟨ok, ow⟩ := ok_startT (N := N) hN le hc h1
    have fin : ∀ {F1 ρ1 σ1 H1 O1} {a : Addr}, Ok W (fun _ => b) F1 ρ1 σ1 H1 → Step F (Own (startT N.length c ds) (L2.start N (.ref b :: vs'))) H F1 O1 H1 → O1 a → ρ1[0]? = some (some (.brw 0 c')) → a ≠ b → CellOk W F1 H1 a r → Q (.ref a) H1 := fun {F1 ρ1 σ1 H1 O1 a} ok1 s1 ha q nab hr => by
      obtain ⟨v', h3, e, h4⟩ := ok1.slots 0 _ q
      subst e
      refine go a F1 H1 ok1.le ⟨s1.f, fun a o e n => s1.h a o e fun z => n ((ow a).mp z), fun a o e n => (s1.nf a o e n).imp id (Or.imp (fun z => (ow a).mp z) id), fun x z => ?_⟩ nab h4 hr
      rcases z with z | z
      · exact .inl z
      · subst z; exact (s1.no x ha).imp (fun z => (ow x).mp z) id
    refine ⟨fun _ => b, F, _, endsTN r c', ok, hm c ds r c' h2, ⟨fun F1 ρ1 σ1 H1 ok1 s1 q => q.elim, fun _ _ _ _ _ _ q => q.elim, fun _ _ _ _ _ _ q => q.elim, fun v x F1 ρ1 σ1 H1 ok1 s1 r1 q => ?_, fun a d F1 ρ1 σ1 H1 ok1 s1 r1 n1 q => ?_⟩⟩
    · obtain ⟨q, q0⟩ := q
      cases x with
      | imm d => exact q.elim
      | slot i =>
        have q : ρ1[i]? = some (some (.own r)) := q
        have r1 : σ1[i]? = some (some v) := r1
        obtain ⟨v', h3, a, e, h4⟩ := ok1.slots i _ q
        rw [r1] at h3; cases h3; subst e
        refine fin ok1 s1 ⟨i, _, q, True.intro, r1⟩ q0 (fun z => ?_) h4
        obtain ⟨v'', h5, e5, _⟩ := ok1.slots 0 _ q0
        subst e5; subst z
        have := ok1.inj i 0 _ _ _ q q0 True.intro True.intro r1 h5
        subst this
        rw [q] at q0; cases q0
    · obtain ⟨e, q0⟩ := q
      subst e
      refine fin ok1 s1 (.inr rfl) q0 (fun z => ?_) r1
      obtain ⟨v'', h5, e5, _⟩ := ok1.slots 0 _ q0
      subst e5; subst z
      exact n1 ⟨0, _, q0, True.intro, h5⟩
end

/-! ### a property -/
def dProp (c : Nat) (m : List D → Cell → Prop) (te : WPE) : WPN := fun ρ Q => te ρ fun x ρ1 => frz x ρ1 fun d ρ2 => match d with
  | .ins c' _ => c' = c ∧ ∃ r, m [d] r ∧ Q r ρ2
  | _ => False
theorem le_prop {X : Cx} {k : Nat} {p g : Addr} {c : Nat} {fd : FuncData} {ps : List Str} {f : Str} {e : Expr} {pos : Pos} {te : WPE} {m : List D → Cell → Prop} (hc : Cls X.K (W.cls c)) (hp : PropOf X.K (W.cls c) f p g) (G : FnOk X.prog X.w X.K X.mg X.base CX0 k g fd ps (spN W m)) (hr : Room (k + 1) X.A) (hb : Binds X.K fd ps [])
    (he : PE X e (LE W te)) (hab : attributeBase e f X.env (eval e X.env) = eval e X.env := by rfl) :
    PE X (.Attribute e f pos) (LN W (dProp c m te)) := (pe_prop he hc hp G hr hb .nil (E := E0) L2.pass0 hab).imp fun σ H Q ⟨ba, F, ρ, Q', ok, h, k⟩ => by
  refine ⟨ba, F, ρ, _, ok, h, fun v x F1 ρ1 H1 ok1 s1 r1 q1 => ?_⟩
  obtain ⟨d, F2, ρ2, ok2, s2, hr2, q2⟩ := frz_ok ok1 r1 q1
  split at q2
  · rename_i c' fs
    obtain ⟨e1, r, hm, q3⟩ := q2
    subst e1
    cases hr2 with
    | @ins a dx _ xs _ ha rf =>
      refine ⟨a, dx, xs, rfl, ok2.le.at ha fun z => z, F2, [.ins c' fs], r, ok2.le, .cons (.ins ha rf) .nil, hm, fun b F3 H3 le3 s3 r3 => ?_⟩
      have fresh : H1 b = none := by
        rcases s3.no b rfl with z | z
        · exact z.elim
        · exact z
      exact k b r F3 ρ2 H3 (ok2.after le3 s3) (s1.trans (s2.trans (s3.more fun a z => z.imp id fun z => by subst z; exact fresh))) r3 (Own.ne_fresh ok2 fresh) q3
  · exact q2.elim
end DL

set_option Elab.async false
set_option linter.all false
set_option maxRecDepth 100000
set_option maxHeartbeats 2000000
/-! DL: constants of the module, isinstance of several classes, == of dicts and of instances -/
namespace DL
open PySem L2 PySem.Spec PyProof.Rows
variable {W : Wd} {ba : Nat → Addr} {F F1 F' H H1 H' : Hp} {ρ ρ1 ρ' : Env} {σ σ' : L2.St}

section
variable {X : Cx} {pos : Pos}
theorem le_globI {x : Str} {i : Int} (hg : Gl X x) (hm : ∃ t, X.mg x = some (.int i t)) (hd : (x == ("__debug__" : Str)) = false := by decide) : PE X (.Name x pos) (LE W (dC (.int i))) := by
  obtain ⟨t, hm⟩ := hm
  exact le_glob hg hm (v := .int i) ⟨t, rfl⟩ (fun _ => .int i) hd
theorem le_globS {x : Str} {i : Str} (hg : Gl X x) (hm : ∃ t, X.mg x = some (.str i t)) (hd : (x == ("__debug__" : Str)) = false := by decide) : PE X (.Name x pos) (LE W (dC (.str i))) := by
  obtain ⟨t, hm⟩ := hm
  exact le_glob hg hm (v := .str i) ⟨t, rfl⟩ (fun _ => .str i) hd
end

/-! ### isinstance(x, (a, b)) -/
def isAnyG (Ts : List Ty) : G1 := fun d k => match isAny Ts d with
  | some b => k (.bl b)
  | none => False
theorem kitAny_of {K : PySem.W.Frag} {tn : String} {d : D} {f : Ty → Bool} (hk : ∀ T : Ty, kitB tn T.name = some (f T)) (hd : ∀ T, isD T d = some (f T)) : ∀ {Ts : List Ty} {b : Bool}, isAny Ts d = some b → PySem.W.kitAny K (.type tn) (Ts.map fun T => Value.type T.name) = some b
  | [], b, h => by cases h; rfl
  | T :: Ts, b, h => by
    rw [isAny, hd T] at h
    refine kitAny_cons (kit_ty (hk T)) (fun e => ?_) fun e => ?_
    · rw [Option.bind_some, e, if_neg Bool.false_ne_true] at h
      exact kitAny_of hk hd h
    · rw [Option.bind_some, e, if_pos rfl] at h
      exact (Option.some.inj h).symm
theorem tyxs {T : Ty} {Ts : List Ty} {d : D} {b : Bool} {v : V} (h : isAny (T :: Ts) d = some b) (hd : RH W F H v d) : ∃ t, TyX W.K H v t ∧ PySem.W.kitAny W.K t ((T :: Ts).map fun T => Value.type T.name) = some b := by
  cases d with
  | non => cases hd; exact ⟨_, .base .non, kitAny_of kit_none (fun _ => rfl) h⟩
  | bl x => cases hd; exact ⟨_, .base (.bl x), kitAny_of kit_bl (fun _ => rfl) h⟩
  | int x => cases hd; exact ⟨_, .base (.int x), kitAny_of kit_int (fun _ => rfl) h⟩
  | str x => cases hd; exact ⟨_, .base (.str x), kitAny_of kit_str (fun _ => rfl) h⟩
  | tup l =>
    obtain ⟨a, xs, rfl, h0, h1, _⟩ := hd
    rcases h1 with (h1 | ⟨o, h1⟩) | ⟨o, its, n, h1, h2, _⟩
    · exact ⟨_, .base (.tup h1), kitAny_of kit_tup (fun _ => rfl) h⟩
    · exact ⟨_, .fTuple h1, kitAny_of kit_tup (fun _ => rfl) h⟩
    · exact ⟨_, .kTuple h1 h2, kitAny_of kit_tup (fun _ => rfl) h⟩
  | lst l => obtain ⟨a, xs, rfl, h1, _⟩ := hd; exact ⟨_, .base (.lst h1), kitAny_of kit_lst (fun _ => rfl) h⟩
  | dK l =>
    obtain ⟨a, xs, rfl, h1, _⟩ := hd
    rcases h1 with h1 | ⟨o, h1⟩
    · exact ⟨_, .base (.dK h1), kitAny_of kit_dic (fun _ => rfl) h⟩
    · exact ⟨_, .fDict h1, kitAny_of kit_dic (fun _ => rfl) h⟩
  | dT l => cases h
  | ins c l => cases h
  | scr l => cases h
theorem isiT_ok {T U : Ty} {te : WPE} {Q : VK} {K : PySem.W.Frag} (hK : K = W.K) (h : LE W (dUn (isAnyG [T, U]) te) σ H Q) : tCB (rIsiT K) (tCons (LE W te) (tCons (tTup (tCons (tC (.ty T.name)) (tCons (tC (.ty U.name)) tNil))) tNil)) σ H Q := by
  obtain ⟨ba, F, ρ, Q', ok, h, k⟩ := h
  refine ⟨ba, F, ρ, _, ok, h, fun v x F1 ρ1 H1 ok1 s1 r1 h1 => ?_⟩
  show 2 ≤ sizeLine ∧ ∀ p, H1 p = none → rIsiT K [v, .ref p] (upd H1 p (.tup [.ty T.name, .ty U.name])) Q
  refine ⟨by rw [sizeLine_eq]; omega, fun p hp => ?_⟩
  obtain ⟨l, s⟩ := fresh_H (o := .tup [.ty T.name, .ty U.name]) ok1.le hp
  have ok2 := ok1.after l s
  obtain ⟨d, hd, h3⟩ := look_ok ok2 r1 h1
  unfold isAnyG at h3
  split at h3
  · rename_i b hb
    obtain ⟨t, h4, h5⟩ := tyxs hb hd
    exact ⟨v, p, _, t, _, b, rfl, upd_same, .cons (.ty _) (.cons (.ty _) .nil), by rw [hK]; exact h4, by rw [hK]; exact h5, k _ (.imm (.bl b)) F1 ρ1 _ ok2 (s1.trans (s.more fun a z => .inl z)) (.bl b) h3⟩
  · exact h3.elim
theorem le_isiT {X : Cx} {e : Expr} {te : WPE} {T U : Ty} {p p1 p2 p3 pos : Pos} {j : Nat} {x y : Str} (hK : X.K = W.K) (hg : Gl X "isinstance") (hm : X.mg "isinstance" = none) (hv : bootBuiltins "isinstance" = some (.builtin "isinstance")) (hx : PE X e (LE W te))
    (ht : PE X (.Name x p1) (tC (.ty T.name))) (hu : PE X (.Name y p2) (tC (.ty U.name)))
    (he : starEach (e :: [.Tuple [.Name x p1, .Name y p2] j p3]) X.env = (false, eval e X.env) :: starEach [.Tuple [.Name x p1, .Name y p2] j p3] X.env := by rfl)
    (he2 : starEach [.Tuple [.Name x p1, .Name y p2] j p3] X.env = (false, eval (.Tuple [.Name x p1, .Name y p2] j p3) X.env) :: starEach [] X.env := by rfl)
    (he3 : starEach [.Name x p1, .Name y p2] X.env = (false, eval (.Name x p1) X.env) :: starEach [.Name y p2] X.env := by rfl) (he4 : starEach [.Name y p2] X.env = (false, eval (.Name y p2) X.env) :: starEach [] X.env := by rfl)
    (hpl : (backTo pos (starEach [.Tuple [.Name x p1, .Name y p2] j p3] X.env)).any (·.1) = false := by rfl) :
    PE X (.Call (.Name "isinstance" p) [e, .Tuple [.Name x p1, .Name y p2] j p3] [] pos) (LE W (dUn (isAnyG [T, U]) te)) :=
  (pe_callB call_isiT hg hm hv (pa_cons hx (pa_cons (pe_tup (pa_cons ht (pa_cons hu pa_nil he4) he3)) pa_nil he2) he) (by decide) (by decide) he hpl).imp fun σ H Q h => isiT_ok hK h

/-! ### isinstance(x, C), x of the class -/
def isInsG (c : Nat) : G1 := fun d k => match d with
  | .ins c' _ => c' = c ∧ k (.bl true)
  | _ => False
structure InsTy (K : PySem.W.Frag) (C : Addr) : Prop where
  cl : Cls K C
  ha : PySem.W.findIn K (.ref C) "__class__" = some (some (.builtin "object.__class__"))
  hn : PySem.W.specialIn K (.builtin "object.__class__") "__get__" = some (some (.builtin "getset_descriptor.__get__"))
  htk : PySem.W.takesIn K (.builtin "object.__class__") = some true
  hm : PySem.W.mroIn K C (.type "object") = some true
theorem isC_ok {c : Nat} {te : WPE} {Q : VK} {K : PySem.W.Frag} (hK : K = W.K) (ht : InsTy K (W.cls c)) (h : LE W (dUn (isInsG c) te) σ H Q) : tCB (rIsi K) (tCons (LE W te) (tCons (tC (.ref (W.cls c))) tNil)) σ H Q := by
  obtain ⟨ba, F, ρ, Q', ok, h, k⟩ := h
  refine ⟨ba, F, ρ, _, ok, h, fun v x F1 ρ1 H1 ok1 s1 r1 h1 => ?_⟩
  obtain ⟨d, hd, h3⟩ := look_ok ok1 r1 h1
  unfold isInsG at h3
  split at h3
  · obtain ⟨e, h3⟩ := h3
    subst e
    obtain ⟨a, dx, xs, rfl, e1, _⟩ := hd
    refine ⟨_, _, _, _, true, rfl, .own _, .base (.ins e1 ht.cl ht.ha ht.hn ht.htk ht.hm), ?_, k _ (.imm (.bl true)) F1 ρ1 H1 ok1 s1 (.bl true) h3⟩
    unfold PySem.W.kitOne
    rw [if_pos (by simp)]
  · exact h3.elim
theorem le_isC {X : Cx} {e : Expr} {te : WPE} {c : Nat} {p p1 pos : Pos} {x : Str} (hK : X.K = W.K) (hT : InsTy W.K (W.cls c)) (hg : Gl X "isinstance") (hm : X.mg "isinstance" = none) (hv : bootBuiltins "isinstance" = some (.builtin "isinstance")) (hx : PE X e (LE W te))
    (hgx : Gl X x) (hmx : X.mg x = some (.ref (W.cls c))) (hdx : (x == ("__debug__" : Str)) = false := by decide) (he : starEach (e :: [.Name x p1]) X.env = (false, eval e X.env) :: starEach [.Name x p1] X.env := by rfl) (he2 : starEach [.Name x p1] X.env = (false, eval (.Name x p1) X.env) :: starEach [] X.env := by rfl) (hpl : (backTo pos (starEach [.Name x p1] X.env)).any (·.1) = false := by rfl) :
    PE X (.Call (.Name "isinstance" p) [e, .Name x p1] [] pos) (LE W (dUn (isInsG c) te)) :=
  (pe_callB call_isi hg hm hv (pa_cons hx (pa_cons (pe_glob hgx hmx (v := .ref (W.cls c)) rfl hdx) pa_nil he2) he) (by decide) (by decide) he hpl).imp fun σ H Q h => isC_ok hK (hK ▸ hT) h

/-! ### == of dicts -/
inductive HitsV (K : PySem.W.Frag) (H : Hp) (ls : List (Key × V)) : List (Key × V) → Bool → Prop
  | nil : HitsV K H ls [] true
  | miss {k : Key} {v : V} {r : List (Key × V)} : valV ls k = none → HitsV K H ls ((k, v) :: r) false
  | hit {k : Key} {v y : V} {r : List (Key × V)} {p q : PyData} {b : Bool} : valV ls k = some y → Dp K H v p → Dp K H y q → SeqAt.shaped p = true → SeqAt.shaped q = true → HitsV K H ls r b → HitsV K H ls ((k, v) :: r) (PyData.eqv p q && b)
theorem hitsV_run {X : Cx} {pins : List (Addr × Obj)} {s : Shared} {A : Around} (I : Inv X pins σ H s) (hu : A.units + 64 < cLine) {ls : List (Key × V)} {vb : List (Key × Value)} (rb : KV ls vb) {ks : List (Key × V)} {va : List (Key × Value)} {r : Bool}
    (ra : KV ks va) (h : HitsV X.K H ls ks r) : PySem.W.KeqHitsP X.prog X.w A s vb va r := by
  unfold KV at ra
  induction ra generalizing r with
  | nil => cases h; exact .nil
  | @cons p q ps qs h0 t k =>
    obtain ⟨h1, h2⟩ := h0
    obtain ⟨key, v⟩ := q
    obtain ⟨pk, pv⟩ := p
    have h1' : pk = key := h1
    subst h1'
    cases h with
    | miss hn =>
      refine .miss ?_
      have rr : RelO none (valueAt vb pk) := by rw [← hn]; exact rb.val pk
      cases q : valueAt vb pk with
      | none => rfl
      | some z => rw [q] at rr; exact (show False from rr).elim
    | @hit _ _ y _ p q b e d1 d2 z1 z2 hr =>
      have rr : RelO (some y) (valueAt vb pk) := by rw [← e]; exact rb.val pk
      obtain ⟨w, hw, rw'⟩ := rr.some_of
      obtain ⟨as, r1⟩ := Dp.reads I p pv v d1 h2
      obtain ⟨bs, r2⟩ := Dp.reads I q y w d2 rw'
      refine .hit hw ?_ (k hr)
      have := SeqAt.eqAt_reads p q A s v w as bs r1 r2 (SeqAt.canLay_of_shaped z1) (SeqAt.canLay_of_shaped z2) ?_
      · exact this.eqP
      · have d3 : p.depth ≤ 64 := by
          have : (p.canLay0 && decide (p.depth ≤ 64)) = true := z1
          rw [Bool.and_eq_true] at this
          exact of_decide_eq_true this.2
        omega
abbrev rEqK (K : PySem.W.Frag) : R2 := fun x y H Q => ∃ a b ks ls r, x = .ref a ∧ y = .ref b ∧ Rd H a (.dK ks) ∧ Rd H b (.dK ls) ∧ (ks.length = ls.length → HitsV K H ls ks r) ∧ Q (.bl (ks.length == ls.length && r)) H
theorem op_eqK {X : Cx} (hu : X.A.units + 65 < cLine) : OpR X (compareOp .Eq) (rEqK X.K) := by
  intro pins s σ H x y v u Q I rx ry ⟨a, b, ks, ls, r, e1, e2, ha, hb, hits, q⟩
  subst e1 e2
  cases rx; cases ry
  show wpAny (model X.prog X.w) X.A (richCompare .Eq (.ref a) (.ref b)) (EP X pins σ Q) X.xe s
  obtain ⟨_, ya, va, ra, da⟩ := dk_rd I.hok ha
  obtain ⟨_, yb, vb, rb, db⟩ := dk_rd I.hok hb
  have la : va.length = ks.length := ra.length.symm
  have lb : vb.length = ls.length := rb.length.symm
  refine PySem.W.rcP_dicts (knd := mixKind X.prog X.w) (r := r) ya yb da db (by omega) (fun z => hitsV_run I (A := X.A.in1) (by show X.A.units + 1 + 64 < cLine; omega) rb ra (hits (by rw [← la, ← lb]; exact z))) _ _ ?_
  rw [la, lb]
  exact ⟨.bl (ks.length == ls.length && r), H, I, rfl, q⟩
/-- the values of the one under the keys of the other -/
def hitsD (m : List (Key × D)) : List (Key × D) → Option Bool
  | [] => some true
  | (k, v) :: r => match dget m k with
    | none => some false
    | some w => match toP v, toP w, hitsD m r with
      | some p, some q, some b => if SeqAt.shaped p = true ∧ SeqAt.shaped q = true then some (PyData.eqv p q && b) else none
      | _, _, _ => none
theorem hitsD_ok (le : LeR F H) {ls : List (Key × V)} {m : List (Key × D)} (rb : RepK W F ls m) : ∀ {l : List (Key × D)} {ks : List (Key × V)} {r : Bool}, hitsD m l = some r → RepK W F ks l → HitsV W.K H ls ks r
  | [], ks, r, e, h => by cases h; cases e; exact .nil
  | (k, v) :: l, ks, r, e, h => by
    cases h with
    | @cons _ x xs _ _ a h =>
      unfold hitsD at e
      rcases rb.val k with ⟨w, y, h3, h4, h5⟩ | ⟨h3, h4⟩
      · rw [h4] at e
        split at e
        · rename_i e2; cases e2
        · rename_i w' e2
          cases e2
          split at e
          · rename_i p q b e3 e4 e5
            split at e
            · rename_i sh
              cases e
              exact .hit h3 (dp_of le e3 a) (dp_of le e4 h5) sh.1 sh.2 (hitsD_ok le rb e5 h)
            · cases e
          · cases e
      · rw [h4] at e
        split at e
        · cases e; exact .miss h3
        · rename_i e2; cases e2
def eqDK (l m : List (Key × D)) : Option Bool := if l.length = m.length then hitsD m l else some false
def eqKG : G2 := fun d e k => match d, e with
  | .dK l, .dK m => match eqDK l m with
    | some r => k (.bl r)
    | none => False
  | _, _ => False
theorem real_eqK : RealB W eqKG (rEqK W.K) := by
  intro F H v w d e k Q le hd he g kr
  unfold eqKG at g
  split at g
  · rename_i l m
    obtain ⟨a, xs, rfl, h1, r1⟩ := hd
    obtain ⟨b, ys, rfl, h2, r2⟩ := he
    split at g
    · rename_i r hr
      unfold eqDK at hr
      split at hr
      · rename_i hl
        refine ⟨a, b, xs, ys, r, rfl, rfl, h1, h2, fun _ => hitsD_ok le r2 hr r1, kr.now le (.bl _) ?_⟩
        rw [r1.length, r2.length, hl]
        simpa using g
      · rename_i hl
        cases hr
        refine ⟨a, b, xs, ys, true, rfl, rfl, h1, h2, fun z => ?_, kr.now le (.bl _) ?_⟩
        · rw [r1.length, r2.length] at z; exact (hl z).elim
        · rw [r1.length, r2.length, beq_eq_false_iff_ne.mpr hl]
          exact g
    · exact g.elim
  · exact g.elim
/-- == of data or of dicts -/
def eqAllG : G2 := fun d e k => match d with
  | .dK _ => eqKG d e k
  | _ => eqG false d e k
abbrev rEqAll (K : PySem.W.Frag) : R2 := fun x y H Q => rEqK K x y H Q ∨ rEqA K x y H Q
theorem op_eqAll {X : Cx} (hu : X.A.units + 65 < cLine) : OpR X (compareOp .Eq) (rEqAll X.K) := (op_eqK hu).or (op_eqA (by omega))
theorem real_eq0 : RealB W (eqG false) (rEqA W.K) := real_eq (neg := false)
theorem real_eq1 : RealB W (eqG true) (rNeA W.K) := real_eq (neg := true)
theorem real_eqAll : RealB W eqAllG (rEqAll W.K) := by
  intro F H v w d e k Q le hd he g kr
  unfold eqAllG at g
  split at g
  · exact .inl (real_eqK F H v w _ e k Q le hd he g kr)
  · exact .inr (real_eq0 F H v w d e k Q le hd he g kr)

/-! ### == of instances by the class's own __eq__ -/
abbrev rEqIns (C : Addr) (sp : Sp) : R2 := fun x y H Q => ∃ a b dx dy fs gs, x = .ref a ∧ y = .ref b ∧ H a = some (.ins C dx fs) ∧ H b = some (.ins C dy gs) ∧ sp [.ref a, .ref b] H (fun v H' => (∃ z, v = .bl z) ∧ Q v H') E0
theorem op_ins {X : Cx} {C f : Addr} {fd : FuncData} {ps : List Str} {k : Nat} {sp : Sp} (Fn : FnOk X.prog X.w X.K X.mg X.base CX0 k f fd ps sp) (hr : Room k X.A)
    (hs : PySem.W.findIn X.K (.ref C) "__eq__" = some (some (.ref f))) (hf : PySem.W.isFn X.K (.ref f) = true) (hb : Binds X.K fd ps []) : OpR X (compareOp .Eq) (rEqIns C sp) := by
  intro pins s σ H x y v u Q I rx ry ⟨a, b, dx, dy, fs, gs, e1, e2, ha, hb', hsp⟩
  subst e1 e2
  cases rx; cases ry
  show wpAny (model X.prog X.w) X.A (richCompare .Eq (.ref a) (.ref b)) (EP X pins σ Q) X.xe s
  obtain ⟨mA, J, _⟩ := ins_get I.hok ha
  obtain ⟨mB, J', _⟩ := ins_get I.hok hb'
  obtain ⟨od, J, _⟩ := J.look
  obtain ⟨od', J', _⟩ := J'.look
  obtain ⟨m, hF⟩ := I.fr
  refine PySem.W.cmp_K (op := .Eq) (tb := .ref C) hr.units0 hF I.ok.mod.kin J J'.type (by simp [PySem.W.notFirst]) hs hf ?_
  have hl := Fn.len _ _ _ _ hsp
  have r2 : Vals [V.ref a, V.ref b] [Value.ref a, Value.ref b] := .cons rfl (.cons rfl .nil)
  refine wpAny_call (codeAny_mono (Fn.run X.A X.stack s H ⟨[.ref a, .ref b], []⟩ [.ref a, .ref b] [.ref a, .ref b] _ E0 hr I.env0 (by
    have := hb s [.ref a, .ref b] I.kIn (by simpa using hl)
    simpa using this) r2 hsp) fun r s' hq => ?_)
  cases r with
  | error e => exact (show False from hq).elim
  | ok fl =>
    cases fl with
    | ret w =>
      obtain ⟨z, H', I', rz, ⟨y, ez⟩, ex⟩ := I.after hq
      subst ez
      cases rz
      exact ⟨.bl y, H', I', rfl, ex⟩
    | next => exact False.elim hq
    | brk => exact False.elim hq
    | cont => exact False.elim hq
def dEqI (c : Nat) (m : List D → D → Prop) (ta tb : WPE) : WPE := fun ρ Q => ta ρ fun x ρ1 => tb ρ1 fun y ρ2 => frz x ρ2 fun d ρ3 => frz y ρ3 fun e ρ4 => match d, e with
  | .ins c1 _, .ins c2 _ => c1 = c ∧ c2 = c ∧ ∃ b, m [d, e] (.bl b) ∧ Q (.imm (.bl b)) ρ4
  | _, _ => False
theorem eqI_ok {c : Nat} {m : List D → D → Prop} {ta tb : WPE} {Q : VK} (h : LE W (dEqI c m ta tb) σ H Q) : tOp (rEqIns (W.cls c) (spP W m)) (LE W ta) (LE W tb) σ H Q := by
  obtain ⟨ba, F, ρ, Q', ok, h, k⟩ := h
  refine ⟨ba, F, ρ, _, ok, h, fun v x F1 ρ1 H1 ok1 s1 r1 h1 => ?_⟩
  refine ⟨ba, F1, ρ1, _, ok1, h1, fun w y F2 ρ2 H2 ok2 s2 r2 h2 => ?_⟩
  obtain ⟨d, F3, ρ3, ok3, s3, hr3, h3⟩ := frz_ok ok2 (r1.mono s2.f) h2
  obtain ⟨e, F4, ρ4, ok4, s4, hr4, h4⟩ := frz_ok ok3 (r2.mono s3.f) h3
  have hr3' : Rep W F4 v d := Rep.mono s4.f hr3
  split at h4
  · obtain ⟨e1, e2, b, hm, q⟩ := h4
    subst e1 e2
    cases hr3' with
    | @ins a dx _ xs _ ha rf =>
      cases hr4 with
      | @ins a' dx' _ xs' _ ha' rf' =>
        refine ⟨a, a', dx, dx', xs, xs', rfl, rfl, ok4.le.at ha fun z => z, ok4.le.at ha' fun z => z, F4, [_, _], .bl b, ok4.le, .cons (.ins ha rf) (.cons (.ins ha' rf') .nil), hm, fun v F5 H5 le5 s5 r5 => ?_⟩
        cases r5
        exact ⟨⟨b, rfl⟩, k _ (.imm (.bl b)) F5 ρ4 H5 (ok4.after le5 s5) (s1.trans (s2.trans (s3.trans (s4.trans s5.keep)))) (.bl b) q⟩
  · exact h4.elim
theorem le_eqI {X : Cx} {c : Nat} {m : List D → D → Prop} {a b : Expr} {ta tb : WPE} {pos : Pos} {f : Addr} {fd : FuncData} {ps : List Str} {k : Nat} (Fn : FnOk X.prog X.w X.K X.mg X.base CX0 k f fd ps (spP W m)) (hr : Room k X.A)
    (hs : PySem.W.findIn X.K (.ref (W.cls c)) "__eq__" = some (some (.ref f))) (hf : PySem.W.isFn X.K (.ref f) = true) (hb : Binds X.K fd ps []) (hm : behindInMarks .Eq b = false) (ha : PE X a (LE W ta)) (hb' : PE X b (LE W tb)) :
    PE X (.Compare a [.Eq] [b] pos) (LE W (dEqI c m ta tb)) := (pe_cmpR (op_ins Fn hr hs hf hb) ha hb' hm).imp fun σ H Q h => eqI_ok h
theorem lt_eqI {X : Cx} {c : Nat} {m : List D → D → Prop} {a b : Expr} {ta tb : WPE} {pos : Pos} {f : Addr} {fd : FuncData} {ps : List Str} {k : Nat} (Fn : FnOk X.prog X.w X.K X.mg X.base CX0 k f fd ps (spP W m)) (hr : Room k X.A)
    (hs : PySem.W.findIn X.K (.ref (W.cls c)) "__eq__" = some (some (.ref f))) (hf : PySem.W.isFn X.K (.ref f) = true) (hb : Binds X.K fd ps []) (hm : behindInMarks .Eq b = false) (ha : PE X a (LE W ta)) (hb' : PE X b (LE W tb)) :
    PT X (.Compare a [.Eq] [b] pos) (LT W (dTest (dEqI c m ta tb))) := (pt_cmpR (op_ins Fn hr hs hf hb) ha hb' hm).imp fun σ H Q h => eqI_ok (test_ok h)
/-! ### the built-in names -/
theorem bt_len : bootBuiltins "len" = some (.builtin "len") := by decide +kernel
theorem bt_int : bootBuiltins "int" = some (.type "int") := by decide +kernel
theorem bt_str : bootBuiltins "str" = some (.type "str") := by decide +kernel
theorem bt_abs : bootBuiltins "abs" = some (.builtin "abs") := by decide +kernel
theorem bt_tuple : bootBuiltins "tuple" = some (.type "tuple") := by decide +kernel
theorem bt_list : bootBuiltins "list" = some (.type "list") := by decide +kernel
theorem bt_dict : bootBuiltins "dict" = some (.type "dict") := by decide +kernel
theorem bt_bool : bootBuiltins "bool" = some (.type "bool") := by decide +kernel
theorem bt_sorted : bootBuiltins "sorted" = some (.builtin "sorted") := by decide +kernel
theorem bt_all : bootBuiltins "all" = some (.builtin "all") := by decide +kernel
theorem bt_max : bootBuiltins "max" = some (.builtin "max") := by decide +kernel
theorem bt_min : bootBuiltins "min" = some (.builtin "min") := by decide +kernel
theorem bt_isinstance : bootBuiltins "isinstance" = some (.builtin "isinstance") := by decide +kernel
theorem rm65 {A : Around} {k : Nat} (hr : Room k A) : A.units + 65 < cLine := by have := hr.un; omega
/-- a def that is never reached -/
theorem fn_none {P : Program} {w : World} {mg : Str → Option Value} {base : Heap} {k : Nat} {f : Addr} {fd : FuncData} {ps : List Str} : FnOk P w W.K mg base CX0 k f fd ps (spP W fun _ _ => False) :=
  ⟨fun _ _ _ _ h => by obtain ⟨_, _, _, _, _, h, _⟩ := h; exact h.elim, fun _ _ _ _ _ _ _ _ _ _ _ _ _ h => by obtain ⟨_, _, _, _, _, h, _⟩ := h; exact h.elim⟩
end DL

set_option Elab.async false
set_option linter.all false
set_option maxRecDepth 100000
set_option maxHeartbeats 2000000
/-! DS: what the readings come to on data of known kinds -/
namespace DL
open PySem L2
theorem atI_of {α} {l : List α} {i : Int} {x : α} (n : Nat) (h : i = n) (e : l[n]? = some x) : atI l i = some x := by subst h; exact atI_nat e
theorem atI_0 {α} (x : α) (l : List α) : atI (x :: l) 0 = some x := atI_of 0 rfl rfl
theorem atI_1 {α} (x y : α) (l : List α) : atI (x :: y :: l) 1 = some y := atI_of 1 rfl rfl
theorem atI_2 {α} (x y z : α) (l : List α) : atI (x :: y :: z :: l) 2 = some z := atI_of 2 rfl rfl
theorem atI_3 {α} (x y z u : α) (l : List α) : atI (x :: y :: z :: u :: l) 3 = some u := atI_of 3 rfl rfl
theorem atI_4 {α} (x y z u v : α) (l : List α) : atI (x :: y :: z :: u :: v :: l) 4 = some v := atI_of 4 rfl rfl
theorem dVar_imm {ρ : Env} {i : Nat} {d : D} {Q : Val → Env → Prop} (h : ρ[i]? = some (some (.imm d))) : dVar i ρ Q = Q (.imm d) ρ := by unfold dVar; rw [h]
section
variable (nw neg : Bool) (k : D → Prop)
theorem ixD_lst (l : List D) (i : Int) : ixD nw (.lst l) (.int i) k = (match atI l i with | some x => k x | none => False) := rfl
theorem ixD_tup (l : List D) (i : Int) : ixD nw (.tup l) (.int i) k = (match atI l i with | some x => k x | none => False) := rfl
theorem ixD_str (z : Str) (i : Int) : ixD nw (.str z) (.int i) k = (z.length ≤ sizeLine ∧ match atI z.cps.toList i with | some c => k (.str ⟨#[c]⟩) | none => False) := rfl
theorem ixD_dKs (l : List (Key × D)) (x : Str) : ixD nw (.dK l) (.str x) k = (match dget l (.inr x) with | some v => k v | none => False) := by
  show (match some (dget l (.inr x)) with | some (some x) => k x | _ => False) = _
  cases dget l (.inr x) <;> rfl
theorem ixD_dKi (l : List (Key × D)) (x : Int) : ixD nw (.dK l) (.int x) k = (match dget l (.inl x) with | some v => k v | none => False) := by
  show (match some (dget l (.inl x)) with | some (some x) => k x | _ => False) = _
  cases dget l (.inl x) <;> rfl
theorem inG_dKs (l : List (Key × D)) (x : Str) : inG nw neg (.str x) (.dK l) k = k (.bl ((dget l (.inr x)).isSome != neg)) := rfl
theorem inG_sign (c : Nat) (z : Str) : inG nw neg (.str ⟨#[c]⟩) (.str z) k = k (.bl (decide (c ∈ z.cps.toList) != neg)) := rfl
theorem eqG_int (i j : Int) : eqG neg (.int i) (.int j) k = k (.bl (decide (i = j) != neg)) := rfl
theorem eqG_str (i j : Str) : eqG neg (.str i) (.str j) k = k (.bl (decide (i = j) != neg)) := rfl
theorem eqG_bl (i j : Bool) : eqG neg (.bl i) (.bl j) k = k (.bl (decide (i = j) != neg)) := rfl
theorem addD_int (i j : Int) : addD (.int i) (.int j) k = k (.int (i + j)) := rfl
theorem addD_str (x y : Str) : addD (.str x) (.str y) k = (x.length + y.length ≤ sizeLine ∧ k (.str (x ++ y))) := rfl
theorem addD_lst (x y : List D) : addD (.lst x) (.lst y) k = (x.length + y.length ≤ sizeLine ∧ k (.lst (x ++ y))) := rfl
theorem addD_tup (x y : List D) : addD (.tup x) (.tup y) k = (x.length + y.length ≤ sizeLine ∧ k (.tup (x ++ y))) := rfl
theorem intD_int (C : Int → Int → Prop) (f : Int → Int → Int) (i j : Int) : intD C f (.int i) (.int j) k = (C i j ∧ k (.int (f i j))) := rfl
theorem cmpD_int (p : Int → Int → Bool) (q : Str → Str → Bool) (i j : Int) : cmpD p q (.int i) (.int j) k = k (.bl (p i j)) := rfl
theorem cmpD_str (p : Int → Int → Bool) (q : Str → Str → Bool) (i j : Str) : cmpD p q (.str i) (.str j) k = k (.bl (q i j)) := rfl
end
section
variable (k : D → Prop)
theorem intG_int (i : Int) : intG [.int i] k = k (.int i) := rfl
theorem intG_bl (b : Bool) : intG [.bl b] k = k (.int (if b then 1 else 0)) := rfl
theorem intG_str (x : Str) : intG [.str x] k = (x.length ≤ 640 ∧ match PySem.intText? x with | some n => k (.int n) | none => False) := rfl
theorem lenG_str (x : Str) : lenG [.str x] k = (x.length ≤ sizeLine ∧ k (.int x.length)) := rfl
theorem lenG_lst (l : List D) : lenG [.lst l] k = k (.int l.length) := rfl
theorem lenG_tup (l : List D) : lenG [.tup l] k = k (.int l.length) := rfl
theorem lenG_dK (l : List (Key × D)) : lenG [.dK l] k = k (.int l.length) := rfl
theorem lenG_scr (l : List Int) : lenG [.scr l] k = k (.int l.length) := rfl
theorem listG2_dK (l : List (Key × D)) : listG2 [.dK l] k = k (.lst (l.map fun p => kD p.1)) := rfl
theorem listG2_lst (l : List D) : listG2 [.lst l] k = k (.lst l) := rfl
theorem listG2_tup (l : List D) : listG2 [.tup l] k = k (.lst l) := rfl
theorem listG2_scr (l : List Int) : listG2 [.scr l] k = k (.lst (l.map .int)) := rfl
theorem tupleG_lst (l : List D) : tupleG [.lst l] k = k (.tup l) := rfl
theorem tupleG_tup (l : List D) : tupleG [.tup l] k = k (.tup l) := rfl
end
theorem cutD_str (z : Str) (lo hi : Option Int) : cutD (.str z) lo hi = if z.length ≤ sizeLine then some (.str (cutS z lo hi)) else none := rfl
theorem cutD_lst (l : List D) (lo hi : Option Int) : cutD (.lst l) lo hi = some (.lst ((l.drop (HT.sIx l.length 0 lo)).take (HT.sIx l.length l.length hi - HT.sIx l.length 0 lo))) := rfl
theorem cutD_tup (l : List D) (lo hi : Option Int) : cutD (.tup l) lo hi = some (.tup ((l.drop (HT.sIx l.length 0 lo)).take (HT.sIx l.length l.length hi - HT.sIx l.length 0 lo))) := rfl
theorem isTy_str (T : String) (x : Str) : isTy T (.str x) = (T = "str") := rfl
/-! ### comprehensions -/
theorem lcGo_fm {vs : List Nat} {g : WPG} {tt : WPT} {te : WPE} {ρ : Env} {f : D → Option D} {Q : List D → Env → Prop} (hc : coolB ρ vs = true) : ∀ (items acc : List D),
    (∀ d ∈ items, ∀ (Q2 : D → Env → Prop) (Q3 : Env → Prop), (match f d with | some e => Q2 e ρ | none => Q3 ρ) → g (.imm d) (wipeE ρ vs) fun ρ1 => tt ρ1 fun b ρ2 => if b = true then te ρ2 fun x ρ3 => frz x ρ3 fun e ρ4 => Q2 e (back ρ ρ4 vs) else Q3 (back ρ ρ2 vs)) →
    acc.length + items.length ≤ sizeLine → Q (acc ++ items.filterMap f) ρ → lcGo vs g tt te items acc ρ Q
  | [], acc, _, _, h => by simpa [lcGo] using h
  | d :: ds, acc, hs, hz, h => by
    rw [List.length_cons] at hz
    refine ⟨hc, hs d List.mem_cons_self (fun e ρ' => acc.length < sizeLine ∧ lcGo vs g tt te ds (acc ++ [e]) ρ' Q) (fun ρ' => lcGo vs g tt te ds acc ρ' Q) ?_⟩
    rw [List.filterMap_cons] at h
    cases q : f d with
    | none =>
      rw [q] at h
      exact lcGo_fm hc ds acc (fun d hd => hs d (List.mem_cons_of_mem _ hd)) (by omega) h
    | some e =>
      rw [q] at h
      exact ⟨by omega, lcGo_fm hc ds (acc ++ [e]) (fun d hd => hs d (List.mem_cons_of_mem _ hd)) (by rw [List.length_append, List.length_singleton]; omega) (by simpa using h)⟩
theorem lcGo_map {vs : List Nat} {g : WPG} {tt : WPT} {te : WPE} {ρ : Env} {f : D → D} {Q : List D → Env → Prop} (hc : coolB ρ vs = true) (items acc : List D)
    (hs : ∀ d ∈ items, ∀ (Q2 : D → Env → Prop) (Q3 : Env → Prop), Q2 (f d) ρ → g (.imm d) (wipeE ρ vs) fun ρ1 => tt ρ1 fun b ρ2 => if b = true then te ρ2 fun x ρ3 => frz x ρ3 fun e ρ4 => Q2 e (back ρ ρ4 vs) else Q3 (back ρ ρ2 vs))
    (hz : acc.length + items.length ≤ sizeLine) (h : Q (acc ++ items.map f) ρ) : lcGo vs g tt te items acc ρ Q :=
  lcGo_fm (f := fun d => some (f d)) hc items acc (fun d hd Q2 Q3 q => hs d hd Q2 Q3 q) hz (by rw [List.filterMap_eq_map']; exact h)
theorem lc2Go_flat {vs vs1 : List Nat} {g : WPG} {tt : WPT} {ti1 : WPI} {g1 : WPG} {tt1 : WPT} {te : WPE} {ρ : Env} {f : D → List D} {Q : List D → Env → Prop} (hc : coolB ρ vs = true) : ∀ (items acc : List D),
    (∀ d ∈ items, ∀ (acc : List D) (Q2 : List D → Env → Prop) (Q3 : Env → Prop), acc.length + (f d).length ≤ sizeLine → Q2 (acc ++ f d) ρ → g (.imm d) (wipeE ρ vs) fun ρ1 => tt ρ1 fun b ρ2 => if b = true then ti1 ρ2 fun its ρ3 => lcGo vs1 g1 tt1 te its acc ρ3 fun acc1 ρ4 => Q2 acc1 (back ρ ρ4 vs) else Q3 (back ρ ρ2 vs)) →
    acc.length + (items.flatMap f).length ≤ sizeLine → Q (acc ++ items.flatMap f) ρ → lc2Go vs vs1 g tt ti1 g1 tt1 te items acc ρ Q
  | [], acc, _, _, h => by simpa [lc2Go] using h
  | d :: ds, acc, hs, hz, h => by
    rw [List.flatMap_cons, List.length_append] at hz
    refine ⟨hc, hs d List.mem_cons_self acc (fun acc1 ρ' => lc2Go vs vs1 g tt ti1 g1 tt1 te ds acc1 ρ' Q) (fun ρ' => lc2Go vs vs1 g tt ti1 g1 tt1 te ds acc ρ' Q) (by omega) ?_⟩
    exact lc2Go_flat hc ds (acc ++ f d) (fun d hd => hs d (List.mem_cons_of_mem _ hd)) (by rw [List.length_append]; omega) (by rw [List.append_assoc]; rw [List.flatMap_cons] at h; exact h)
theorem dput_new {κ : Type} [DecidableEq κ] {l : List (κ × D)} {k : κ} {v : D} (h : k ∉ l.map (·.1)) : dput l k v = l ++ [(k, v)] := by
  unfold dput
  rw [if_neg]
  intro z
  obtain ⟨p, hp, e⟩ := List.any_eq_true.mp z
  exact h (List.mem_map.mpr ⟨p, hp, of_decide_eq_true e⟩)
theorem dcGo_map {vs : List Nat} {g : WPG} {tt : WPT} {tk tv : WPE} {ρ : Env} {fk : D → Key} {fv : D → D} {Q : List (Key × D) → Env → Prop} (hc : coolB ρ vs = true) : ∀ (items : List D) (acc : List (Key × D)),
    (∀ d ∈ items, ∀ (Q2 : Key → D → Env → Prop) (Q3 : Env → Prop), Q2 (fk d) (fv d) ρ → g (.imm d) (wipeE ρ vs) fun ρ1 => tt ρ1 fun b ρ2 => if b = true then tk ρ2 fun x ρ3 => frz x ρ3 fun kd ρ4 => match keyD kd with
      | some key => tv ρ4 fun y ρ5 => frz y ρ5 fun e ρ6 => Q2 key e (back ρ ρ6 vs)
      | none => False
      else Q3 (back ρ ρ2 vs)) →
    acc.length + items.length ≤ sizeLine → (acc.map (·.1) ++ items.map fk).Nodup → Q (acc ++ items.map fun d => (fk d, fv d)) ρ → dcGo vs g tt tk tv items acc ρ Q
  | [], acc, _, _, _, h => by simpa [dcGo] using h
  | d :: ds, acc, hs, hz, hn, h => by
    rw [List.length_cons] at hz
    refine ⟨hc, hs d List.mem_cons_self (fun key e ρ' => acc.length < sizeLine ∧ dcGo vs g tt tk tv ds (dput acc key e) ρ' Q) (fun ρ' => dcGo vs g tt tk tv ds acc ρ' Q) ⟨by omega, ?_⟩⟩
    have hk : fk d ∉ acc.map (·.1) := fun z => by
      have := (List.nodup_append.mp hn).2.2 _ z (fk d) (by simp)
      exact this rfl
    rw [dput_new hk]
    exact dcGo_map hc ds _ (fun d hd => hs d (List.mem_cons_of_mem _ hd)) (by rw [List.length_append, List.length_singleton]; omega) (by simpa using hn) (by simpa using h)
theorem dget_map {α : Type} {l : List α} {fk : α → Key} {fv : α → D} (hn : (l.map fk).Nodup) {a : α} (h : a ∈ l) : dget (l.map fun x => (fk x, fv x)) (fk a) = some (fv a) := by
  induction l with
  | nil => cases h
  | cons b l ih =>
    rw [List.map_cons, List.nodup_cons] at hn
    unfold dget
    rw [List.map_cons, List.find?_cons]
    rcases List.mem_cons.mp h with e | e
    · subst e
      simp
    · have : ¬ fk b = fk a := fun z => hn.1 (by rw [z]; exact List.mem_map.mpr ⟨a, e, rfl⟩)
      simp only [this, decide_false]
      exact ih hn.2 e
theorem blsD_true : ∀ (n : Nat), blsD (List.replicate n (.bl true)) = some (List.replicate n true)
  | 0 => rfl
  | n + 1 => by
    rw [List.replicate_succ, blsD, blsD_true n]; rfl
theorem strsD_map : ∀ (l : List Str), strsD (l.map D.str) = some l
  | [] => rfl
  | x :: l => by
    rw [List.map_cons, strsD, strsD_map l]; rfl
theorem rtexts_map {α : Type} (fk : α → Str) (fv : α → D) : ∀ (l : List α), rtexts (l.map fun x => ((Sum.inr (fk x) : Key), fv x)) = some (l.map fk)
  | [] => rfl
  | x :: l => by
    rw [List.map_cons, rtexts, rtexts_map fk fv l]; rfl
end DL

set_option Elab.async false
set_option linter.all false
set_option maxRecDepth 100000
set_option maxHeartbeats 2000000
/-! what each def of k86's text computes -/
namespace K86
open PySem L2 DL TL
abbrev Tab := List (Str × Int × Int)
def mk (l : List Nat) : Str := ⟨l.toArray⟩
def frD (p : Int × Int) : D := .tup [.int p.1, .int p.2]
def tabD (t : Tab) : List (Key × D) := t.map fun p => (Sum.inr p.1, frD p.2)
def priceF (r : Str) (w : Int) (t : Tab) : List (Str × D) := [("rows", .str r), ("width", .int w), ("kept_table", .dK (tabD t))]
def priceD (r : Str) (w : Int) (t : Tab) : D := .ins 0 (priceF r w t)
def numS (i : Int) : Str := Str.ofString (toString i)
def frS (p : Int × Int) : Str := if p.2 = 1 then numS p.1 else numS p.1 ++ "/" ++ numS p.2
def lineS (p : Str × Int × Int) : Str := p.1 ++ " " ++ frS p.2
def headS (r : Str) (w : Int) : Str := "prices " ++ r ++ " " ++ numS w
def linesS (r : Str) (w : Int) (t : Tab) : List Str := headS r w :: t.map lineS
def textS (r : Str) (w : Int) (t : Tab) : Str := Txt.join "\n" (linesS r w t) ++ "\n"
structure FrOk (p : Int × Int) : Prop where
  top : p.1.natAbs < 10 ^ 52
  pos : 0 < p.2
  bot : p.2 < 10 ^ 4
  cop : Int.gcd p.1 p.2 = 1
structure RowsOk (r : Str) : Prop where
  asc : (tl r).Pairwise (· < ·)
  low : ∀ c ∈ tl r, 97 ≤ c ∧ c ≤ 122
  one : 1 ≤ (tl r).length
  four : (tl r).length ≤ 4
structure Sz (r : Str) (w : Nat) : Prop extends RowsOk r where
  w1 : 1 ≤ w
  w3 : w ≤ 3
  few : w = 3 → (tl r).length ≤ 3
def codesN (L : List Nat) : Nat → List (List Nat)
  | 0 => [[]]
  | n + 1 => (codesN L n).flatMap fun c => L.map fun x => c ++ [x]
def codesS (r : Str) (n : Nat) : List Str := (codesN (tl r) n).map mk
def hat (x : Str) : Str := "^" ++ x
def preNames (r : Str) (w : Nat) : List Str := codesS r w ++ (List.range (w - 1)).flatMap fun k => (codesS r (k + 1)).map hat
def names (r : Str) (w : Nat) : List Str := sortS (preNames r w)
structure TabOk (r : Str) (w : Nat) (t : Tab) : Prop extends Sz r w where
  keys : t.map (·.1) = names r w
  good : ∀ p ∈ t, FrOk p.2
/-- a stretch as a text writes it -/
def isSt (x : Str) : Prop := (tl x ≠ [] ∧ (tl x).length ≤ 4 ∧ ∀ c ∈ tl x, 97 ≤ c ∧ c ≤ 122) ∨ ∃ l, tl x = 94 :: l ∧ l ≠ [] ∧ l.length ≤ 4 ∧ ∀ c ∈ l, 97 ≤ c ∧ c ≤ 122
/-! the program -/
def M_fraction_text : List D → D → Prop := fun ds r => ∃ p, FrOk p ∧ ds = [frD p] ∧ r = .str (frS p)
def M_Prices_table : List D → Cell → Prop := fun ds c => ∃ (r : Str) (w : Nat) (t : Tab), TabOk r w t ∧ ds = [priceD r w t] ∧ c = .dK (tabD t)
def M_prices_text : List D → D → Prop := fun ds x => ∃ (r : Str) (w : Nat) (t : Tab), TabOk r w t ∧ ds = [priceD r w t] ∧ x = .str (textS r w t)
def M_common_divisor : List D → D → Prop := fun ds r => ∃ a b : Nat, ds = [.int a, .int b] ∧ r = .int (Nat.gcd a b)
def M_is_integer : List D → D → Prop := fun ds r => ∃ i, ds = [.int i] ∧ r = .bl true
def M_is_within : List D → D → Prop := fun ds r => ∃ t a b : Int, ds = [.int t, .int a, .int b] ∧ r = .bl (decide (a ≤ t ∧ t ≤ b))
def M_is_pair : List D → D → Prop := fun ds r => ∃ a b, ds = [.tup [a, b]] ∧ r = .bl true
def M_is_string_of : List D → D → Prop := fun ds r => ∃ x y : Str, ds = [.str x, .str y] ∧ r = .bl (decide (∀ c ∈ tl x, c ∈ tl y))
def M_is_word : List D → D → Prop := fun ds r => ∃ x : Str, x.length ≤ 1000 ∧ ds = [.str x] ∧ r = .bl (decide ((∀ c ∈ tl x, 97 ≤ c ∧ c ≤ 122) ∧ tl x ≠ []))
def M_is_ascending : List D → D → Prop := fun ds r => ∃ x : Str, RowsOk x ∧ ds = [.str x] ∧ r = .bl true
def M_is_rows : List D → D → Prop := fun ds r => ∃ x : Str, RowsOk x ∧ ds = [.str x] ∧ r = .bl true
def M_is_width : List D → D → Prop := fun ds r => ∃ w : Int, 1 ≤ w ∧ w ≤ 3 ∧ ds = [.int w] ∧ r = .bl true
def M_is_fraction : List D → D → Prop := fun ds r => ∃ p, FrOk p ∧ ds = [frD p] ∧ r = .bl true
def M_codes_of_length : List D → Cell → Prop := fun ds c => ∃ (r : Str) (n : Nat), (tl r).length ≤ 4 ∧ n ≤ 3 ∧ ds = [.str r, .int n] ∧ c = .lst ((codesS r n).map .str)
def M_stretch_names : List D → D → Prop := fun ds x => ∃ (r : Str) (w : Nat), Sz r w ∧ ds = [.str r, .int w] ∧ x = .lst ((names r w).map .str)
def M_is_table : List D → D → Prop := fun ds x => ∃ (r : Str) (w : Nat) (t : Tab), TabOk r w t ∧ ds = [.dK (tabD t), .lst ((names r w).map .str)] ∧ x = .bl true
def M_Prices_init : Cell → List D → D → Cell → Prop := fun c ds x c' => ∃ (r : Str) (w : Nat) (t : Tab), TabOk r w t ∧ c = .ins 0 [] ∧ ds = [.str r, .int w, .dK (tabD t)] ∧ x = .non ∧ c' = .ins 0 (priceF r w t)
def M_Prices_eq : List D → D → Prop := fun ds x => ∃ (r : Str) (w : Nat) (t t' : Tab), TabOk r w t ∧ TabOk r w t' ∧ ds = [priceD r w t, priceD r w t'] ∧ x = .bl (decide (t = t'))
def M_lines_of : List D → D → Prop := fun ds x => ∃ (r : Str) (w : Nat) (t : Tab), TabOk r w t ∧ ds = [.str (textS r w t)] ∧ x = .tup [.lst ((linesS r w t).map .str), .str Str.empty]
def M_number_of : List D → D → Prop := fun ds x => ∃ n : Nat, n < 10 ^ 52 ∧ ds = [.str (numS n), .int 60] ∧ x = .int n
def M_head_of : List D → D → Prop := fun ds x => ∃ (r : Str) (w : Nat), Sz r w ∧ ds = [.str (headS r w), .str "prices", .str "0123456789"] ∧ x = .tup [.str r, .int w]
def M_fraction_of : List D → D → Prop := fun ds x => ∃ p, FrOk p ∧ ds = [.str (frS p)] ∧ x = frD p
def M_is_stretch : List D → D → Prop := fun ds r => ∃ x, isSt x ∧ ds = [.str x] ∧ r = .bl true
def M_read_prices : List D → Cell → Prop := fun ds c => ∃ (r : Str) (w : Nat) (t : Tab), TabOk r w t ∧ ds = [.str (textS r w t)] ∧ c = .ins 0 (priceF r w t)
/-! the law -/
structure Tape where
  ns : List Int
  at_ : Nat
  rest : Int
  mix : Int
  turn : Nat
def Tape.ok (t : Tape) : Prop := 0 ≤ t.mix ∧ t.mix < 2 ^ 31 ∧ t.at_ ≤ t.ns.length
def tapeL (t : Tape) : List D := [.lst (t.ns.map .int), .int t.at_, .int t.rest, .int t.mix, .int t.turn]
def mixed (t : Tape) (cell : Int) : Int :=
  let m := (t.mix * 48271 + cell % 2147483629 + ((t.turn : Int) + 1) * 69621) % 2147483647
  (m * (m / 1009 + 40692)) % 2147483399
def pick (t : Tape) (s : Int) : Int × Tape :=
  if 1 < t.rest then (t.rest % s, { t with rest := t.rest / s }) else
  let cell := if t.at_ < t.ns.length then t.ns.getD t.at_ 0 else 0
  let at' := if t.at_ < t.ns.length then t.at_ + 1 else t.at_
  if 10 ^ 18 ≤ cell then (cell % s, { t with at_ := at', rest := cell / s, turn := t.turn + 1 }) else
  ((mixed t cell / 16) % s, { t with at_ := at', mix := mixed t cell, turn := t.turn + 1 })
def M__law_tape : List D → Cell → Prop := fun ds c => ∃ ns : List Int, ds = [.scr ns] ∧ c = .lst (tapeL ⟨ns, 0, 0, 1, 0⟩)
def M__law_pick : Cell → List D → D → Cell → Prop := fun c ds x c' => ∃ (t : Tape) (s : Int), t.ok ∧ t.turn < 2 ^ 20 ∧ 0 < s ∧ s < 2 ^ 30 ∧ c = .lst (tapeL t) ∧ ds = [.int s] ∧ x = .int (pick t s).1 ∧ c' = .lst (tapeL (pick t s).2)
def lettersAt (start step : Int) (k : Nat) : Nat := 97 + ((start + step * k) % 26).toNat
def rowsOf (t : Tape) (most : Int) : Str × Tape :=
  let (a, t1) := pick t 26
  let (b, t2) := pick t1 6
  let (c, t3) := pick t2 most
  let l := (List.range (1 + c).toNat).map fun k => mk [lettersAt a (1 + 2 * b) k]
  (Txt.join Str.empty (sortS l), t3)
def M__law_rows : Cell → List D → D → Cell → Prop := fun c ds x c' => ∃ (t : Tape) (m : Int), t.ok ∧ t.turn < 2 ^ 19 ∧ 1 ≤ m ∧ m ≤ 4 ∧ c = .lst (tapeL t) ∧ ds = [.int m] ∧ x = .str (rowsOf t m).1 ∧ c' = .lst (tapeL (rowsOf t m).2)
def low (a b : Int) : Int × Int := (a / (Int.gcd a b : Int), b / (Int.gcd a b : Int))
def M__law_lowest : List D → D → Prop := fun ds x => ∃ a b : Int, a.natAbs < 10 ^ 52 ∧ 0 < b ∧ b < 2000 ∧ ds = [.int a, .int b] ∧ x = frD (low a b)
def fracOf (t : Tape) : (Int × Int) × Tape :=
  let (g, t1) := pick t (10 ^ 6)
  let (k, t2) := pick t1 5
  let top := [g % 10, g % 199 - 99, g % 10, 0, 10 ^ 50 - g].getD k.toNat 0
  let bot := [1, 1, 1 + (g / 10) % 7, 1, 1 + g % 1000].getD k.toNat 1
  (low top bot, t2)
def M__law_fraction : Cell → List D → D → Cell → Prop := fun c ds x c' => ∃ t : Tape, t.ok ∧ t.turn < 2 ^ 19 ∧ c = .lst (tapeL t) ∧ ds = [] ∧ x = frD (fracOf t).1 ∧ c' = .lst (tapeL (fracOf t).2)
def M__law_all_stretches : List D → D → Prop := fun ds x => ∃ (r : Str) (w : Nat), Sz r w ∧ ds = [.str r, .int w] ∧ x = .lst ((names r w).map .str)
def fracsOf : List Str → Tape → Tab × Tape
  | [], t => ([], t)
  | x :: xs, t => ((x, (fracOf t).1) :: (fracsOf xs (fracOf t).2).1, (fracsOf xs (fracOf t).2).2)
def M__law_table : Cell → List D → Cell → Cell → Prop := fun c ds x c' => ∃ (t : Tape) (r : Str) (w : Nat), t.ok ∧ t.turn < 2 ^ 18 ∧ Sz r w ∧ c = .lst (tapeL t) ∧ ds = [.str r, .int w] ∧ x = .dK (tabD (fracsOf (names r w) t).1) ∧ c' = .lst (tapeL (fracsOf (names r w) t).2)
def Scal (d : D) : Prop := (∃ i, d = .int i) ∨ ∃ x, d = .str x
def M__law_is : List D → D → Prop := fun ds r => ∃ a b, Scal a ∧ Scal b ∧ (ds = [a, a] ∨ ds = [.tup [a, b], .tup [a, b]]) ∧ r = .bl true
def M__law_is0 : List D → D → Prop := fun ds r => ∃ a, Scal a ∧ ds = [a, a] ∧ r = .bl true
def M__law_fraction_text : List D → D → Prop := fun ds r => ∃ p, FrOk p ∧ ds = [frD p] ∧ r = .str (frS p)
def M__law_prices_text : List D → D → Prop := fun ds x => ∃ (r : Str) (w : Nat) (t : Tab), TabOk r w t ∧ ds = [.str r, .int w, .dK (tabD t)] ∧ x = .str (textS r w t)
def M__law_holds : List D → D → Prop := fun ds x => ∃ (r : Str) (w : Nat) (t : Tab), TabOk r w t ∧ ds = [.str r, .int w, .dK (tabD t), priceD r w t] ∧ x = .bl true
def M_law : List D → D → Prop := fun ds x => ∃ ns : List Int, ns.length ≤ 63 ∧ ds = [.scr ns] ∧ x = .bl true
end K86

set_option Elab.async false
set_option linter.all false
set_option maxRecDepth 100000
set_option maxHeartbeats 2000000
namespace K86
open PySem L2 DL PySem.Spec PyProof.Rows
def topS (i : Nat) : Stmt := PySem.Challenge.pw_stretchprices_k86_whole_texts_of_prices.main.body.getD i (.Pass ⟨0, 0, 0, 0⟩)
abbrev NW : Bool := true
/-! fraction_text -/
abbrev s_fraction_text : Stmt := topS 1
abbrev N_fraction_text : List Str := ["fraction"]
theorem sc_fraction_text : FnScope N_fraction_text ["fraction"] (defScope s_fraction_text) := ⟨rfl, rfl, rfl, by decide +kernel, rfl, by decide +kernel, by decide +kernel⟩
/-! Prices.table -/
abbrev s_Prices_table : Stmt := inClass (topS 26) 1
abbrev N_Prices_table : List Str := ["self", "name"]
theorem sc_Prices_table : FnScope N_Prices_table ["self"] (defScope s_Prices_table) := ⟨rfl, rfl, rfl, by decide +kernel, rfl, by decide +kernel, by decide +kernel⟩
/-! prices_text -/
abbrev s_prices_text : Stmt := topS 2
abbrev N_prices_text : List Str := ["prices", "table", "lines", "stretch"]
theorem sc_prices_text : FnScope N_prices_text ["prices"] (defScope s_prices_text) := ⟨rfl, rfl, rfl, by decide +kernel, rfl, by decide +kernel, by decide +kernel⟩
/-! _law_fraction_text -/
abbrev s__law_fraction_text : Stmt := topS 45
abbrev N__law_fraction_text : List Str := ["_law_fraction_here"]
theorem sc__law_fraction_text : FnScope N__law_fraction_text ["_law_fraction_here"] (defScope s__law_fraction_text) := ⟨rfl, rfl, rfl, by decide +kernel, rfl, by decide +kernel, by decide +kernel⟩
/-! _law_prices_text -/
abbrev s__law_prices_text : Stmt := topS 46
abbrev N__law_prices_text : List Str := ["_law_rows_here", "_law_width", "_law_table_here", "_law_lines", "_law_stretch"]
theorem sc__law_prices_text : FnScope N__law_prices_text ["_law_rows_here", "_law_width", "_law_table_here"] (defScope s__law_prices_text) := ⟨rfl, rfl, rfl, by decide +kernel, rfl, by decide +kernel, by decide +kernel⟩
/-! Prices.__eq__ -/
abbrev s_Prices_eq : Stmt := inClass (topS 26) 2
abbrev N_Prices_eq : List Str := ["self", "other"]
theorem sc_Prices_eq : FnScope N_Prices_eq ["self", "other"] (defScope s_Prices_eq) := ⟨rfl, rfl, rfl, by decide +kernel, rfl, by decide +kernel, by decide +kernel⟩
/-! _law_is -/
abbrev s__law_is : Stmt := topS 44
abbrev N__law_is : List Str := ["_law_told", "_law_due", "_law_k"]
theorem sc__law_is : FnScope N__law_is ["_law_told", "_law_due"] (defScope s__law_is) := ⟨rfl, rfl, rfl, by decide +kernel, rfl, by decide +kernel, by decide +kernel⟩
/-! common_divisor -/
abbrev s_common_divisor : Stmt := topS 8
abbrev N_common_divisor : List Str := ["one", "other"]
theorem sc_common_divisor : FnScope N_common_divisor ["one", "other"] (defScope s_common_divisor) := ⟨rfl, rfl, rfl, by decide +kernel, rfl, by decide +kernel, by decide +kernel⟩
/-! is_integer -/
abbrev s_is_integer : Stmt := topS 13
abbrev N_is_integer : List Str := ["thing"]
theorem sc_is_integer : FnScope N_is_integer ["thing"] (defScope s_is_integer) := ⟨rfl, rfl, rfl, by decide +kernel, rfl, by decide +kernel, by decide +kernel⟩
/-! is_pair -/
abbrev s_is_pair : Stmt := topS 15
abbrev N_is_pair : List Str := ["thing"]
theorem sc_is_pair : FnScope N_is_pair ["thing"] (defScope s_is_pair) := ⟨rfl, rfl, rfl, by decide +kernel, rfl, by decide +kernel, by decide +kernel⟩
/-! is_fraction -/
abbrev s_is_fraction : Stmt := topS 21
abbrev N_is_fraction : List Str := ["thing"]
theorem sc_is_fraction : FnScope N_is_fraction ["thing"] (defScope s_is_fraction) := ⟨rfl, rfl, rfl, by decide +kernel, rfl, by decide +kernel, by decide +kernel⟩
/-! is_table -/
abbrev s_is_table : Stmt := topS 25
abbrev N_is_table : List Str := ["thing", "names", "name"]
theorem sc_is_table : FnScope N_is_table ["thing", "names"] (defScope s_is_table) := ⟨rfl, rfl, rfl, by decide +kernel, rfl, by decide +kernel, by decide +kernel⟩
/-! codes_of_length -/
abbrev s_codes_of_length : Stmt := topS 23
abbrev N_codes_of_length : List Str := ["rows", "length", "found", "turn", "code", "row"]
theorem sc_codes_of_length : FnScope N_codes_of_length ["rows", "length"] (defScope s_codes_of_length) := ⟨rfl, rfl, rfl, by decide +kernel, rfl, by decide +kernel, by decide +kernel⟩
/-! stretch_names -/
abbrev s_stretch_names : Stmt := topS 24
abbrev N_stretch_names : List Str := ["rows", "width", "found", "length", "code"]
theorem sc_stretch_names : FnScope N_stretch_names ["rows", "width"] (defScope s_stretch_names) := ⟨rfl, rfl, rfl, by decide +kernel, rfl, by decide +kernel, by decide +kernel⟩
/-! is_within -/
abbrev s_is_within : Stmt := topS 14
abbrev N_is_within : List Str := ["thing", "least", "most"]
theorem sc_is_within : FnScope N_is_within ["thing", "least", "most"] (defScope s_is_within) := ⟨rfl, rfl, rfl, by decide +kernel, rfl, by decide +kernel, by decide +kernel⟩
/-! is_width -/
abbrev s_is_width : Stmt := topS 20
abbrev N_is_width : List Str := ["thing"]
theorem sc_is_width : FnScope N_is_width ["thing"] (defScope s_is_width) := ⟨rfl, rfl, rfl, by decide +kernel, rfl, by decide +kernel, by decide +kernel⟩
/-! is_ascending -/
abbrev s_is_ascending : Stmt := topS 18
abbrev N_is_ascending : List Str := ["word", "at"]
theorem sc_is_ascending : FnScope N_is_ascending ["word"] (defScope s_is_ascending) := ⟨rfl, rfl, rfl, by decide +kernel, rfl, by decide +kernel, by decide +kernel⟩
/-! is_string_of -/
abbrev s_is_string_of : Stmt := topS 16
abbrev N_is_string_of : List Str := ["thing", "signs", "sign"]
theorem sc_is_string_of : FnScope N_is_string_of ["thing", "signs"] (defScope s_is_string_of) := ⟨rfl, rfl, rfl, by decide +kernel, rfl, by decide +kernel, by decide +kernel⟩
/-! is_word -/
abbrev s_is_word : Stmt := topS 17
abbrev N_is_word : List Str := ["thing"]
theorem sc_is_word : FnScope N_is_word ["thing"] (defScope s_is_word) := ⟨rfl, rfl, rfl, by decide +kernel, rfl, by decide +kernel, by decide +kernel⟩
/-! is_rows -/
abbrev s_is_rows : Stmt := topS 19
abbrev N_is_rows : List Str := ["thing"]
theorem sc_is_rows : FnScope N_is_rows ["thing"] (defScope s_is_rows) := ⟨rfl, rfl, rfl, by decide +kernel, rfl, by decide +kernel, by decide +kernel⟩
/-! Prices.__init__ -/
abbrev s_Prices_init : Stmt := inClass (topS 26) 0
abbrev N_Prices_init : List Str := ["self", "rows", "width", "table", "names", "name"]
theorem sc_Prices_init : FnScope N_Prices_init ["self", "rows", "width", "table"] (defScope s_Prices_init) := ⟨rfl, rfl, rfl, by decide +kernel, rfl, by decide +kernel, by decide +kernel⟩
/-! is_stretch -/
abbrev s_is_stretch : Stmt := topS 34
abbrev N_is_stretch : List Str := ["word"]
theorem sc_is_stretch : FnScope N_is_stretch ["word"] (defScope s_is_stretch) := ⟨rfl, rfl, rfl, by decide +kernel, rfl, by decide +kernel, by decide +kernel⟩
/-! number_of -/
abbrev s_number_of : Stmt := topS 31
abbrev N_number_of : List Str := ["word", "figures"]
theorem sc_number_of : FnScope N_number_of ["word", "figures"] (defScope s_number_of) := ⟨rfl, rfl, rfl, by decide +kernel, rfl, by decide +kernel, by decide +kernel⟩
/-! fraction_of -/
abbrev s_fraction_of : Stmt := topS 33
abbrev N_fraction_of : List Str := ["word", "top", "slash", "bottom", "number", "parts"]
theorem sc_fraction_of : FnScope N_fraction_of ["word"] (defScope s_fraction_of) := ⟨rfl, rfl, rfl, by decide +kernel, rfl, by decide +kernel, by decide +kernel⟩
/-! head_of -/
abbrev s_head_of : Stmt := topS 32
abbrev N_head_of : List Str := ["line", "word", "figures", "words"]
theorem sc_head_of : FnScope N_head_of ["line", "word", "figures"] (defScope s_head_of) := ⟨rfl, rfl, rfl, by decide +kernel, rfl, by decide +kernel, by decide +kernel⟩
/-! lines_of -/
abbrev s_lines_of : Stmt := topS 30
abbrev N_lines_of : List Str := ["text", "parts"]
theorem sc_lines_of : FnScope N_lines_of ["text"] (defScope s_lines_of) := ⟨rfl, rfl, rfl, by decide +kernel, rfl, by decide +kernel, by decide +kernel⟩
/-! read_prices -/
abbrev s_read_prices : Stmt := topS 35
abbrev N_read_prices : List Str := ["text", "lines", "rest", "rows", "width", "table", "ahead", "at", "line", "stretch", "blank", "word", "fraction"]
theorem sc_read_prices : FnScope N_read_prices ["text"] (defScope s_read_prices) := ⟨rfl, rfl, rfl, by decide +kernel, rfl, by decide +kernel, by decide +kernel⟩
/-! _law_holds -/
abbrev s__law_holds : Stmt := topS 47
abbrev N__law_holds : List Str := ["_law_rows_here", "_law_width", "_law_table_here", "_law_prices", "_law_text", "_law_made", "_law_told", "_law_key"]
theorem sc__law_holds : FnScope N__law_holds ["_law_rows_here", "_law_width", "_law_table_here", "_law_prices"] (defScope s__law_holds) := ⟨rfl, rfl, rfl, by decide +kernel, rfl, by decide +kernel, by decide +kernel⟩
/-! _law_lowest -/
abbrev s__law_lowest : Stmt := topS 40
abbrev N__law_lowest : List Str := ["_law_top", "_law_bottom", "_law_one", "_law_other", "_law_k", "_law_rest"]
theorem sc__law_lowest : FnScope N__law_lowest ["_law_top", "_law_bottom"] (defScope s__law_lowest) := ⟨rfl, rfl, rfl, by decide +kernel, rfl, by decide +kernel, by decide +kernel⟩
/-! _law_pick -/
abbrev s__law_pick : Stmt := topS 38
abbrev N__law_pick : List Str := ["_law_tape_here", "_law_size", "_law_digit", "_law_cell", "_law_mixed"]
theorem sc__law_pick : FnScope N__law_pick ["_law_tape_here", "_law_size"] (defScope s__law_pick) := ⟨rfl, rfl, rfl, by decide +kernel, rfl, by decide +kernel, by decide +kernel⟩
/-! _law_fraction -/
abbrev s__law_fraction : Stmt := topS 41
abbrev N__law_fraction : List Str := ["_law_tape_here", "_law_great", "_law_kind", "_law_top"]
theorem sc__law_fraction : FnScope N__law_fraction ["_law_tape_here"] (defScope s__law_fraction) := ⟨rfl, rfl, rfl, by decide +kernel, rfl, by decide +kernel, by decide +kernel⟩
/-! _law_all_stretches -/
abbrev s__law_all_stretches : Stmt := topS 42
abbrev N__law_all_stretches : List Str := ["_law_rows_here", "_law_width", "_law_words", "_law_found", "_law_size", "_law_longer", "_law_word", "_law_row"]
theorem sc__law_all_stretches : FnScope N__law_all_stretches ["_law_rows_here", "_law_width"] (defScope s__law_all_stretches) := ⟨rfl, rfl, rfl, by decide +kernel, rfl, by decide +kernel, by decide +kernel⟩
/-! _law_table -/
abbrev s__law_table : Stmt := topS 43
abbrev N__law_table : List Str := ["_law_tape_here", "_law_rows_here", "_law_width", "_law_table_here", "_law_stretch"]
theorem sc__law_table : FnScope N__law_table ["_law_tape_here", "_law_rows_here", "_law_width"] (defScope s__law_table) := ⟨rfl, rfl, rfl, by decide +kernel, rfl, by decide +kernel, by decide +kernel⟩
/-! _law_rows -/
abbrev s__law_rows : Stmt := topS 39
abbrev N__law_rows : List Str := ["_law_tape_here", "_law_most", "_law_start", "_law_step", "_law_many", "_law_k"]
theorem sc__law_rows : FnScope N__law_rows ["_law_tape_here", "_law_most"] (defScope s__law_rows) := ⟨rfl, rfl, rfl, by decide +kernel, rfl, by decide +kernel, by decide +kernel⟩
/-! _law_tape -/
abbrev s__law_tape : Stmt := topS 37
abbrev N__law_tape : List Str := ["_law_script"]
theorem sc__law_tape : FnScope N__law_tape ["_law_script"] (defScope s__law_tape) := ⟨rfl, rfl, rfl, by decide +kernel, rfl, by decide +kernel, by decide +kernel⟩
/-! law -/
abbrev s_law : Stmt := topS 48
abbrev N_law : List Str := ["_law_script", "_law_tape_here", "_law_width", "_law_rows_here", "_law_table_here", "_law_other", "_law_key", "_law_at", "_law_one", "_law_two"]
theorem sc_law : FnScope N_law ["_law_script"] (defScope s_law) := ⟨rfl, rfl, rfl, by decide +kernel, rfl, by decide +kernel, by decide +kernel⟩
structure Ad where
  f_fraction_text : Addr
  fd_fraction_text : FuncData
  f_Prices_table : Addr
  fd_Prices_table : FuncData
  f_prices_text : Addr
  fd_prices_text : FuncData
  f__law_fraction_text : Addr
  fd__law_fraction_text : FuncData
  f__law_prices_text : Addr
  fd__law_prices_text : FuncData
  f_Prices_eq : Addr
  fd_Prices_eq : FuncData
  f__law_is : Addr
  fd__law_is : FuncData
  f_common_divisor : Addr
  fd_common_divisor : FuncData
  f_is_integer : Addr
  fd_is_integer : FuncData
  f_is_pair : Addr
  fd_is_pair : FuncData
  f_is_fraction : Addr
  fd_is_fraction : FuncData
  f_is_table : Addr
  fd_is_table : FuncData
  f_codes_of_length : Addr
  fd_codes_of_length : FuncData
  f_stretch_names : Addr
  fd_stretch_names : FuncData
  f_is_within : Addr
  fd_is_within : FuncData
  f_is_width : Addr
  fd_is_width : FuncData
  f_is_ascending : Addr
  fd_is_ascending : FuncData
  f_is_string_of : Addr
  fd_is_string_of : FuncData
  f_is_word : Addr
  fd_is_word : FuncData
  f_is_rows : Addr
  fd_is_rows : FuncData
  f_Prices_init : Addr
  fd_Prices_init : FuncData
  f_is_stretch : Addr
  fd_is_stretch : FuncData
  f_number_of : Addr
  fd_number_of : FuncData
  f_fraction_of : Addr
  fd_fraction_of : FuncData
  f_head_of : Addr
  fd_head_of : FuncData
  f_lines_of : Addr
  fd_lines_of : FuncData
  f_read_prices : Addr
  fd_read_prices : FuncData
  f__law_holds : Addr
  fd__law_holds : FuncData
  f__law_lowest : Addr
  fd__law_lowest : FuncData
  f__law_pick : Addr
  fd__law_pick : FuncData
  f__law_fraction : Addr
  fd__law_fraction : FuncData
  f__law_all_stretches : Addr
  fd__law_all_stretches : FuncData
  f__law_table : Addr
  fd__law_table : FuncData
  f__law_rows : Addr
  fd__law_rows : FuncData
  f__law_tape : Addr
  fd__law_tape : FuncData
  f_law : Addr
  fd_law : FuncData
  p_Prices_table : Addr
structure Tx (W : Wd) (mg : Str → Option Value) (A : Ad) : Prop where
  nw : NW = true → W.nw = true
  F_fraction_text : Fun W.K "fraction_text" "fraction_text" s_fraction_text A.f_fraction_text A.fd_fraction_text
  b_fraction_text : Binds W.K A.fd_fraction_text ["fraction"] []
  g_fraction_text : mg "fraction_text" = some (.ref A.f_fraction_text)
  F_Prices_table : Fun W.K "table" "Prices.table" s_Prices_table A.f_Prices_table A.fd_Prices_table
  b_Prices_table : Binds W.K A.fd_Prices_table ["self"] []
  F_prices_text : Fun W.K "prices_text" "prices_text" s_prices_text A.f_prices_text A.fd_prices_text
  b_prices_text : Binds W.K A.fd_prices_text ["prices"] []
  g_prices_text : mg "prices_text" = some (.ref A.f_prices_text)
  F__law_fraction_text : Fun W.K "_law_fraction_text" "_law_fraction_text" s__law_fraction_text A.f__law_fraction_text A.fd__law_fraction_text
  b__law_fraction_text : Binds W.K A.fd__law_fraction_text ["_law_fraction_here"] []
  g__law_fraction_text : mg "_law_fraction_text" = some (.ref A.f__law_fraction_text)
  F__law_prices_text : Fun W.K "_law_prices_text" "_law_prices_text" s__law_prices_text A.f__law_prices_text A.fd__law_prices_text
  b__law_prices_text : Binds W.K A.fd__law_prices_text ["_law_rows_here", "_law_width", "_law_table_here"] []
  g__law_prices_text : mg "_law_prices_text" = some (.ref A.f__law_prices_text)
  F_Prices_eq : Fun W.K "__eq__" "Prices.__eq__" s_Prices_eq A.f_Prices_eq A.fd_Prices_eq
  b_Prices_eq : Binds W.K A.fd_Prices_eq ["self", "other"] []
  F__law_is : Fun W.K "_law_is" "_law_is" s__law_is A.f__law_is A.fd__law_is
  b__law_is : Binds W.K A.fd__law_is ["_law_told", "_law_due"] []
  g__law_is : mg "_law_is" = some (.ref A.f__law_is)
  F_common_divisor : Fun W.K "common_divisor" "common_divisor" s_common_divisor A.f_common_divisor A.fd_common_divisor
  b_common_divisor : Binds W.K A.fd_common_divisor ["one", "other"] []
  g_common_divisor : mg "common_divisor" = some (.ref A.f_common_divisor)
  F_is_integer : Fun W.K "is_integer" "is_integer" s_is_integer A.f_is_integer A.fd_is_integer
  b_is_integer : Binds W.K A.fd_is_integer ["thing"] []
  g_is_integer : mg "is_integer" = some (.ref A.f_is_integer)
  F_is_pair : Fun W.K "is_pair" "is_pair" s_is_pair A.f_is_pair A.fd_is_pair
  b_is_pair : Binds W.K A.fd_is_pair ["thing"] []
  g_is_pair : mg "is_pair" = some (.ref A.f_is_pair)
  F_is_fraction : Fun W.K "is_fraction" "is_fraction" s_is_fraction A.f_is_fraction A.fd_is_fraction
  b_is_fraction : Binds W.K A.fd_is_fraction ["thing"] []
  g_is_fraction : mg "is_fraction" = some (.ref A.f_is_fraction)
  F_is_table : Fun W.K "is_table" "is_table" s_is_table A.f_is_table A.fd_is_table
  b_is_table : Binds W.K A.fd_is_table ["thing", "names"] []
  g_is_table : mg "is_table" = some (.ref A.f_is_table)
  F_codes_of_length : Fun W.K "codes_of_length" "codes_of_length" s_codes_of_length A.f_codes_of_length A.fd_codes_of_length
  b_codes_of_length : Binds W.K A.fd_codes_of_length ["rows", "length"] []
  g_codes_of_length : mg "codes_of_length" = some (.ref A.f_codes_of_length)
  F_stretch_names : Fun W.K "stretch_names" "stretch_names" s_stretch_names A.f_stretch_names A.fd_stretch_names
  b_stretch_names : Binds W.K A.fd_stretch_names ["rows", "width"] []
  g_stretch_names : mg "stretch_names" = some (.ref A.f_stretch_names)
  F_is_within : Fun W.K "is_within" "is_within" s_is_within A.f_is_within A.fd_is_within
  b_is_within : Binds W.K A.fd_is_within ["thing", "least", "most"] []
  g_is_within : mg "is_within" = some (.ref A.f_is_within)
  F_is_width : Fun W.K "is_width" "is_width" s_is_width A.f_is_width A.fd_is_width
  b_is_width : Binds W.K A.fd_is_width ["thing"] []
  g_is_width : mg "is_width" = some (.ref A.f_is_width)
  F_is_ascending : Fun W.K "is_ascending" "is_ascending" s_is_ascending A.f_is_ascending A.fd_is_ascending
  b_is_ascending : Binds W.K A.fd_is_ascending ["word"] []
  g_is_ascending : mg "is_ascending" = some (.ref A.f_is_ascending)
  F_is_string_of : Fun W.K "is_string_of" "is_string_of" s_is_string_of A.f_is_string_of A.fd_is_string_of
  b_is_string_of : Binds W.K A.fd_is_string_of ["thing", "signs"] []
  g_is_string_of : mg "is_string_of" = some (.ref A.f_is_string_of)
  F_is_word : Fun W.K "is_word" "is_word" s_is_word A.f_is_word A.fd_is_word
  b_is_word : Binds W.K A.fd_is_word ["thing"] []
  g_is_word : mg "is_word" = some (.ref A.f_is_word)
  F_is_rows : Fun W.K "is_rows" "is_rows" s_is_rows A.f_is_rows A.fd_is_rows
  b_is_rows : Binds W.K A.fd_is_rows ["thing"] []
  g_is_rows : mg "is_rows" = some (.ref A.f_is_rows)
  F_Prices_init : Fun W.K "__init__" "Prices.__init__" s_Prices_init A.f_Prices_init A.fd_Prices_init
  b_Prices_init : Binds W.K A.fd_Prices_init ["self", "rows", "width", "table"] []
  F_is_stretch : Fun W.K "is_stretch" "is_stretch" s_is_stretch A.f_is_stretch A.fd_is_stretch
  b_is_stretch : Binds W.K A.fd_is_stretch ["word"] []
  g_is_stretch : mg "is_stretch" = some (.ref A.f_is_stretch)
  F_number_of : Fun W.K "number_of" "number_of" s_number_of A.f_number_of A.fd_number_of
  b_number_of : Binds W.K A.fd_number_of ["word", "figures"] []
  g_number_of : mg "number_of" = some (.ref A.f_number_of)
  F_fraction_of : Fun W.K "fraction_of" "fraction_of" s_fraction_of A.f_fraction_of A.fd_fraction_of
  b_fraction_of : Binds W.K A.fd_fraction_of ["word"] []
  g_fraction_of : mg "fraction_of" = some (.ref A.f_fraction_of)
  F_head_of : Fun W.K "head_of" "head_of" s_head_of A.f_head_of A.fd_head_of
  b_head_of : Binds W.K A.fd_head_of ["line", "word", "figures"] []
  g_head_of : mg "head_of" = some (.ref A.f_head_of)
  F_lines_of : Fun W.K "lines_of" "lines_of" s_lines_of A.f_lines_of A.fd_lines_of
  b_lines_of : Binds W.K A.fd_lines_of ["text"] []
  g_lines_of : mg "lines_of" = some (.ref A.f_lines_of)
  F_read_prices : Fun W.K "read_prices" "read_prices" s_read_prices A.f_read_prices A.fd_read_prices
  b_read_prices : Binds W.K A.fd_read_prices ["text"] []
  g_read_prices : mg "read_prices" = some (.ref A.f_read_prices)
  F__law_holds : Fun W.K "_law_holds" "_law_holds" s__law_holds A.f__law_holds A.fd__law_holds
  b__law_holds : Binds W.K A.fd__law_holds ["_law_rows_here", "_law_width", "_law_table_here", "_law_prices"] []
  g__law_holds : mg "_law_holds" = some (.ref A.f__law_holds)
  F__law_lowest : Fun W.K "_law_lowest" "_law_lowest" s__law_lowest A.f__law_lowest A.fd__law_lowest
  b__law_lowest : Binds W.K A.fd__law_lowest ["_law_top", "_law_bottom"] []
  g__law_lowest : mg "_law_lowest" = some (.ref A.f__law_lowest)
  F__law_pick : Fun W.K "_law_pick" "_law_pick" s__law_pick A.f__law_pick A.fd__law_pick
  b__law_pick : Binds W.K A.fd__law_pick ["_law_tape_here", "_law_size"] []
  g__law_pick : mg "_law_pick" = some (.ref A.f__law_pick)
  F__law_fraction : Fun W.K "_law_fraction" "_law_fraction" s__law_fraction A.f__law_fraction A.fd__law_fraction
  b__law_fraction : Binds W.K A.fd__law_fraction ["_law_tape_here"] []
  g__law_fraction : mg "_law_fraction" = some (.ref A.f__law_fraction)
  F__law_all_stretches : Fun W.K "_law_all_stretches" "_law_all_stretches" s__law_all_stretches A.f__law_all_stretches A.fd__law_all_stretches
  b__law_all_stretches : Binds W.K A.fd__law_all_stretches ["_law_rows_here", "_law_width"] []
  g__law_all_stretches : mg "_law_all_stretches" = some (.ref A.f__law_all_stretches)
  F__law_table : Fun W.K "_law_table" "_law_table" s__law_table A.f__law_table A.fd__law_table
  b__law_table : Binds W.K A.fd__law_table ["_law_tape_here", "_law_rows_here", "_law_width"] []
  g__law_table : mg "_law_table" = some (.ref A.f__law_table)
  F__law_rows : Fun W.K "_law_rows" "_law_rows" s__law_rows A.f__law_rows A.fd__law_rows
  b__law_rows : Binds W.K A.fd__law_rows ["_law_tape_here", "_law_most"] []
  g__law_rows : mg "_law_rows" = some (.ref A.f__law_rows)
  F__law_tape : Fun W.K "_law_tape" "_law_tape" s__law_tape A.f__law_tape A.fd__law_tape
  b__law_tape : Binds W.K A.fd__law_tape ["_law_script"] []
  g__law_tape : mg "_law_tape" = some (.ref A.f__law_tape)
  F_law : Fun W.K "law" "law" s_law A.f_law A.fd_law
  b_law : Binds W.K A.fd_law ["_law_script"] []
  g_law : mg "law" = some (.ref A.f_law)
  g_Prices : mg "Prices" = some (.ref (W.cls 0))
  cl_Prices : Cls W.K (W.cls 0)
  mk_Prices : Mk W.K (W.cls 0) A.f_Prices_init
  ity_Prices : InsTy W.K (W.cls 0)
  eq_Prices : PySem.W.findIn W.K (.ref (W.cls 0)) "__eq__" = some (some (.ref A.f_Prices_eq))
  eqf_Prices : PySem.W.isFn W.K (.ref A.f_Prices_eq) = true
  no_Prices_rows : NoAttr W.K (W.cls 0) "rows"
  no_Prices_width : NoAttr W.K (W.cls 0) "width"
  no_Prices_kept_table : NoAttr W.K (W.cls 0) "kept_table"
  pr_Prices_table : PropOf W.K (W.cls 0) "table" A.p_Prices_table A.f_Prices_table
  n_abs : mg "abs" = none
  n_all : mg "all" = none
  n_bool : mg "bool" = none
  n_dict : mg "dict" = none
  n_enumerate : mg "enumerate" = none
  n_int : mg "int" = none
  n_isinstance : mg "isinstance" = none
  n_len : mg "len" = none
  n_list : mg "list" = none
  n_range : mg "range" = none
  n_sorted : mg "sorted" = none
  n_str : mg "str" = none
  n_tuple : mg "tuple" = none
  c_FIGURES : ∃ t, mg "FIGURES" = some (.str "0123456789" t)
  c_MOST_PARTS : ∃ t, mg "MOST_PARTS" = some (.int 60 t)
  c_MOST_ROWS : ∃ t, mg "MOST_ROWS" = some (.int 4 t)
  c_MOST_WIDTH : ∃ t, mg "MOST_WIDTH" = some (.int 3 t)
  c_SMALL : ∃ t, mg "SMALL" = some (.str "abcdefghijklmnopqrstuvwxyz" t)
section
variable {P : Program} {w : World} {mg : Str → Option Value} {base : Heap} {W : Wd} {A : Ad}
set_option linter.all false
def t_fraction_text : WPS :=
  (sRet (dIf (dTest (dBin (eqG false) (dBin (ixD NW) (dVar 0) (dC (.int 1))) (dC (.int 1)))) (dFmt (dBin (ixD NW) (dVar 0) (dC (.int 0)))) (dJs [(dFmt (dBin (ixD NW) (dVar 0) (dC (.int 0)))), (dC (.str "/")), (dFmt (dBin (ixD NW) (dVar 0) (dC (.int 1))))] Str.empty)))
theorem d_fraction_text (T : Tx W mg A) : BodyD P w W mg base 0 N_fraction_text "fraction_text" s_fraction_text A.f_fraction_text t_fraction_text := by
  intro cdv A2 outer s H E hr
  have nd := sc_fraction_text.nd
  exact (ls_one (ls_ret (le_if (lt_cmp (op_eqA hr.units) real_eq0 (nomark _) (le_ix (ix_any (hu_of hr)) (real_ix T.nw) (fun _ _ => rfl) (le_var 0) le_int) le_int) (le_joined1 (le_fmt (le_ix (ix_any (hu_of hr)) (real_ix T.nw) (fun _ _ => rfl) (le_var 0) le_int))) (le_joined (LJ.cons (le_fmt (le_ix (ix_any (hu_of hr)) (real_ix T.nw) (fun _ _ => rfl) (le_var 0) le_int)) (LJ.cons le_str (LJ.cons (le_fmt (le_ix (ix_any (hu_of hr)) (real_ix T.nw) (fun _ _ => rfl) (le_var 0) le_int)) LJ.nil)))))))
def t_Prices_table : WPS :=
  (sRetNew (dDc (dWalk .keys (dFld 0 "kept_table" (dVar 0))) [1] (dSet 1) dYes (dVar 1) (dBin (ixD NW) (dFld 0 "kept_table" (dVar 0)) (dVar 1))))
theorem d_Prices_table (T : Tx W mg A) : BodyD P w W mg base 0 N_Prices_table "Prices.table" s_Prices_table A.f_Prices_table t_Prices_table := by
  intro cdv A2 outer s H E hr
  have nd := sc_Prices_table.nd
  exact (ls_one (ls_retNew (ln_dcD (own := [("name", 1)]) (w := .keys) (T := tFld W.K (tVar 0) "kept_table") (still_fld T.cl_Prices T.no_Prices_kept_table) rfl nd (pi_keys (pe_fld (pv 0) rfl)) (blkOk_by (N := N_Prices_table) (sc := defScope s_Prices_table) (own := [("name", 1)]) (by decide +kernel)) (fun _ _ _ _ _ => (lgv_name (i := 1) (by decide) nd rfl (by first | exact Or.inl rfl | exact Or.inr rfl))) (fun _ _ _ _ _ => lts_nil) (fun _ _ _ _ _ => (le_var 1)) (fun _ _ _ _ _ => (le_ix (ix_any (hu_of hr)) (real_ix T.nw) (fun _ _ => rfl) (le_fld rfl T.cl_Prices T.no_Prices_kept_table (le_var 0)) (le_var 1))))))
def t_prices_text : WPS :=
  (sSeq (sNew (dProp 0 M_Prices_table (dVar 0)) 1)
  (sSeq (sNew (dLst (dCons (dJs [(dC (.str "prices ")), (dFmt (dFld 0 "rows" (dVar 0))), (dC (.str " ")), (dFmt (dFld 0 "width" (dVar 0)))] Str.empty) dNil)) 2)
  (sSeq (sDrop (dExtend 2 (dFz (dLc (dIter (dCallL sortedG2 (dCons (dVar 1) dNil))) [3] (dSet 3) dYes (dJs [(dFmt (dVar 3)), (dC (.str " ")), (dFmt (dCallP M_fraction_text (dCons (dBin (ixD NW) (dVar 1) (dVar 3)) dNil)))] Str.empty)))))
  (sRet (dBin addD (dMeth "str" joinG (dC (.str "\n")) (dCons (dVar 2) dNil)) (dC (.str "\n")))))))
theorem d_prices_text (T : Tx W mg A) (G_fraction_text : FnOk P w W.K mg base CX0 1 A.f_fraction_text A.fd_fraction_text ["fraction"] (spP W M_fraction_text)) (G_Prices_table : FnOk P w W.K mg base CX0 1 A.f_Prices_table A.fd_Prices_table ["self"] (spN W M_Prices_table)) : BodyD P w W mg base 2 N_prices_text "prices_text" s_prices_text A.f_prices_text t_prices_text := by
  intro cdv A2 outer s H E hr
  have nd := sc_prices_text.nd
  exact (ls_cons (ls_new (i := 1) nd rfl (by first | exact Or.inl rfl | exact Or.inr rfl) (le_prop (c := 0) T.cl_Prices T.pr_Prices_table G_Prices_table (hr.mono (by decide)) T.b_Prices_table (le_var 0)))
      (ls_cons (ls_new (i := 2) nd rfl (by first | exact Or.inl rfl | exact Or.inr rfl) (ln_lst (la_cons (le_joined (LJ.cons le_str (LJ.cons (le_fmt (le_fld rfl T.cl_Prices T.no_Prices_rows (le_var 0))) (LJ.cons le_str (LJ.cons (le_fmt (le_fld rfl T.cl_Prices T.no_Prices_width (le_var 0))) LJ.nil))))) la_nil)))
      (ls_cons (ls_expr (le_extend (i := 2) rfl (pv 2) (le_of_ln (ln_lc (own := [("stretch", 3)]) rfl nd (li_any rfl (le_callB (cr_sortedB rfl) real_sortedG2 (by rfl) T.n_sorted bt_sorted (la_cons (le_var 1) la_nil))) (blkOk_by (N := N_prices_text) (sc := defScope s_prices_text) (own := [("stretch", 3)]) (by decide +kernel)) (fun _ _ _ _ _ => (lgv_name (i := 3) (by decide) nd rfl (by first | exact Or.inl rfl | exact Or.inr rfl))) (fun _ _ _ _ _ => lts_nil) (fun _ _ _ _ _ => (le_joined (LJ.cons (le_fmt (le_var 3)) (LJ.cons le_str (LJ.cons (le_fmt (le_callP G_fraction_text (hr.mono (by decide)) (by rfl) T.g_fraction_text T.F_fraction_text.kp T.b_fraction_text (la_cons (le_ix (ix_any (hu_of hr)) (real_ix T.nw) (fun _ _ => rfl) (le_var 1) (le_var 3)) la_nil))) LJ.nil)))))))))
      (ls_one (ls_ret (le_bin op_addD real_add (le_bm rfl PySem.F.plainAttrs_str PySem.F.slot_str_join PySem.F.type_str_join mt_join real_joinG le_str (la_cons (le_var 2) la_nil)) le_str))))))
def t__law_fraction_text : WPS :=
  (sSeq (sIf (dTest (dBin (eqG false) (dBin (ixD NW) (dVar 0) (dC (.int 1))) (dC (.int 1)))) (sRet (dCallL strG (dCons (dBin (ixD NW) (dVar 0) (dC (.int 0))) dNil))) sNext)
  (sRet (dBin addD (dBin addD (dCallL strG (dCons (dBin (ixD NW) (dVar 0) (dC (.int 0))) dNil)) (dC (.str "/"))) (dCallL strG (dCons (dBin (ixD NW) (dVar 0) (dC (.int 1))) dNil)))))
theorem d__law_fraction_text (T : Tx W mg A) : BodyD P w W mg base 0 N__law_fraction_text "_law_fraction_text" s__law_fraction_text A.f__law_fraction_text t__law_fraction_text := by
  intro cdv A2 outer s H E hr
  have nd := sc__law_fraction_text.nd
  exact (ls_cons (ls_if (lt_cmp (op_eqA hr.units) real_eq0 (nomark _) (le_ix (ix_any (hu_of hr)) (real_ix T.nw) (fun _ _ => rfl) (le_var 0) le_int) le_int) (ls_one (ls_ret (le_callTy call_str_int real_strG (by rfl) T.n_str bt_str (la_cons (le_ix (ix_any (hu_of hr)) (real_ix T.nw) (fun _ _ => rfl) (le_var 0) le_int) la_nil)))) ls_nil)
      (ls_one (ls_ret (le_bin op_addD real_add (le_bin op_addD real_add (le_callTy call_str_int real_strG (by rfl) T.n_str bt_str (la_cons (le_ix (ix_any (hu_of hr)) (real_ix T.nw) (fun _ _ => rfl) (le_var 0) le_int) la_nil)) le_str) (le_callTy call_str_int real_strG (by rfl) T.n_str bt_str (la_cons (le_ix (ix_any (hu_of hr)) (real_ix T.nw) (fun _ _ => rfl) (le_var 0) le_int) la_nil))))))
def t__law_prices_text : WPS :=
  (sSeq (sNew (dLst (dCons (dBin addD (dBin addD (dBin addD (dC (.str "prices ")) (dVar 0)) (dC (.str " "))) (dCallL strG (dCons (dVar 1) dNil))) dNil)) 3)
  (sSeq (sFor (dIter (dCallL sortedG2 (dCons (dCallL listG2 (dCons (dVar 2) dNil)) dNil))) (dSet 4) (sDrop (dAppend 3 (dBin addD (dBin addD (dVar 4) (dC (.str " "))) (dCallP M__law_fraction_text (dCons (dBin (ixD NW) (dVar 2) (dVar 4)) dNil))))))
  (sRet (dBin addD (dMeth "str" joinG (dC (.str "\n")) (dCons (dVar 3) dNil)) (dC (.str "\n"))))))
theorem d__law_prices_text (T : Tx W mg A) (G__law_fraction_text : FnOk P w W.K mg base CX0 1 A.f__law_fraction_text A.fd__law_fraction_text ["_law_fraction_here"] (spP W M__law_fraction_text)) : BodyD P w W mg base 1 N__law_prices_text "_law_prices_text" s__law_prices_text A.f__law_prices_text t__law_prices_text := by
  intro cdv A2 outer s H E hr
  have nd := sc__law_prices_text.nd
  exact (ls_cons (ls_new (i := 3) nd rfl (by first | exact Or.inl rfl | exact Or.inr rfl) (ln_lst (la_cons (le_bin op_addD real_add (le_bin op_addD real_add (le_bin op_addD real_add le_str (le_var 0)) le_str) (le_callTy call_str_int real_strG (by rfl) T.n_str bt_str (la_cons (le_var 1) la_nil))) la_nil)))
      (ls_cons (ls_for PassesOwn.never rfl (li_any rfl (le_callB (cr_sortedB rfl) real_sortedG2 (by rfl) T.n_sorted bt_sorted (la_cons (le_callTy (cr_list rfl) real_listG2 (by rfl) T.n_list bt_list (la_cons (le_var 2) la_nil)) la_nil))) (lg_name (i := 4) nd rfl (by first | exact Or.inl rfl | exact Or.inr rfl)) (ls_one (ls_expr (le_append (i := 3) rfl (pv 3) (le_bin op_addD real_add (le_bin op_addD real_add (le_var 4) le_str) (le_callP G__law_fraction_text (hr.mono (by decide)) (by rfl) T.g__law_fraction_text T.F__law_fraction_text.kp T.b__law_fraction_text (la_cons (le_ix (ix_any (hu_of hr)) (real_ix T.nw) (fun _ _ => rfl) (le_var 2) (le_var 4)) la_nil)))))))
      (ls_one (ls_ret (le_bin op_addD real_add (le_bm rfl PySem.F.plainAttrs_str PySem.F.slot_str_join PySem.F.type_str_join mt_join real_joinG le_str (la_cons (le_var 3) la_nil)) le_str)))))
def t_Prices_eq : WPS :=
  (sSeq (sIf (dNot (dTest (dUn (isInsG 0) (dVar 1)))) (sRet (dC (.bl false))) sNext)
  (sRet (dAndV (dBin (eqG false) (dFld 0 "rows" (dVar 0)) (dFld 0 "rows" (dVar 1))) (dAndV (dBin (eqG false) (dFld 0 "width" (dVar 0)) (dFld 0 "width" (dVar 1))) (dBin eqAllG (dFld 0 "kept_table" (dVar 0)) (dFld 0 "kept_table" (dVar 1)))))))
theorem d_Prices_eq (T : Tx W mg A) : BodyD P w W mg base 0 N_Prices_eq "Prices.__eq__" s_Prices_eq A.f_Prices_eq t_Prices_eq := by
  intro cdv A2 outer s H E hr
  have nd := sc_Prices_eq.nd
  exact (ls_cons (ls_if (lt_not (lt_val (le_isC rfl T.ity_Prices (by rfl) T.n_isinstance bt_isinstance (le_var 1) (by rfl) T.g_Prices))) (ls_one (ls_ret le_bl)) ls_nil)
      (ls_one (ls_ret (le_and (le_cmp (op_eqA hr.units) real_eq0 (nomark _) (le_fld rfl T.cl_Prices T.no_Prices_rows (le_var 0)) (le_fld rfl T.cl_Prices T.no_Prices_rows (le_var 1))) (le_and (le_cmp (op_eqA hr.units) real_eq0 (nomark _) (le_fld rfl T.cl_Prices T.no_Prices_width (le_var 0)) (le_fld rfl T.cl_Prices T.no_Prices_width (le_var 1))) (le_one (le_cmp (op_eqAll (rm65 hr)) real_eqAll (nomark _) (le_fld rfl T.cl_Prices T.no_Prices_kept_table (le_var 0)) (le_fld rfl T.cl_Prices T.no_Prices_kept_table (le_var 1)))))))))
def t__law_is (R : List D → D → Prop) : WPS :=
  (sSeq (sIf (dTest (dUn (isAnyG [.tuple, .list]) (dVar 1))) (sSeq (sIf (dOr (dTest (dBin (eqG true) (dUn (isiG .tuple) (dVar 0)) (dUn (isiG .tuple) (dVar 1)))) (dNot (dTest (dUn (isAnyG [.tuple, .list]) (dVar 0))))) (sRet (dC (.bl false))) sNext)
  (sRet (dAndV (dBin (eqG false) (dCallL lenG (dCons (dVar 0) dNil)) (dCallL lenG (dCons (dVar 1) dNil))) (dBin (eqG false) (dCallL lenG (dCons (dFz (dLc (dRange1 (dCons (dCallL lenG (dCons (dVar 1) dNil)) dNil)) [2] (dSet 2) (dNot (dTest (dCallP R (dCons (dBin (ixD NW) (dVar 0) (dVar 2)) (dCons (dBin (ixD NW) (dVar 1) (dVar 2)) dNil))))) (dVar 2))) dNil)) (dC (.int 0)))))) sNext)
  (sRet (dAndV (dBin (eqG false) (dUn (isiG .bool) (dVar 0)) (dUn (isiG .bool) (dVar 1))) (dBin (eqG false) (dVar 0) (dVar 1)))))
theorem d__law_is (T : Tx W mg A) {R : List D → D → Prop} {j k : Nat} (hj : j ≤ k) (G__law_is : FnOk P w W.K mg base CX0 j A.f__law_is A.fd__law_is ["_law_told", "_law_due"] (spP W R)) : BodyD P w W mg base k N__law_is "_law_is" s__law_is A.f__law_is (t__law_is R) := by
  intro cdv A2 outer s H E hr
  have nd := sc__law_is.nd
  exact (ls_cons (ls_if (lt_val (le_isiT (T := .tuple) (U := .list) rfl (by rfl) T.n_isinstance bt_isinstance (le_var 1) (pe_bltn (by rfl) T.n_tuple bt_tuple rfl) (pe_bltn (by rfl) T.n_list bt_list rfl))) (ls_cons (ls_if (PW.pt (lw_or (lt_cmp (op_neA hr.units) real_eq1 (nomark _) (le_isi (T := .tuple) rfl (by rfl) T.n_isinstance bt_isinstance (le_var 0) (pe_bltn (by rfl) T.n_tuple bt_tuple rfl)) (le_isi (T := .tuple) rfl (by rfl) T.n_isinstance bt_isinstance (le_var 1) (pe_bltn (by rfl) T.n_tuple bt_tuple rfl))) (lw_or1 (lt_not (lt_val (le_isiT (T := .tuple) (U := .list) rfl (by rfl) T.n_isinstance bt_isinstance (le_var 0) (pe_bltn (by rfl) T.n_tuple bt_tuple rfl) (pe_bltn (by rfl) T.n_list bt_list rfl))))))) (ls_one (ls_ret le_bl)) ls_nil)
      (ls_one (ls_ret (le_and (le_cmp (op_eqA hr.units) real_eq0 (nomark _) (le_callB cr_len real_len (by rfl) T.n_len bt_len (la_cons (le_var 0) la_nil)) (le_callB cr_len real_len (by rfl) T.n_len bt_len (la_cons (le_var 1) la_nil))) (le_one (le_cmp (op_eqA hr.units) real_eq0 (nomark _) (le_callB cr_len real_len (by rfl) T.n_len bt_len (la_cons (le_of_ln (ln_lc (own := [("_law_k", 2)]) rfl nd (li_range1 (by rfl) T.n_range (la_cons (le_callB cr_len real_len (by rfl) T.n_len bt_len (la_cons (le_var 1) la_nil)) la_nil)) (blkOk_by (N := N__law_is) (sc := defScope s__law_is) (own := [("_law_k", 2)]) (by decide +kernel)) (fun _ _ _ _ _ => (lgv_name (i := 2) (by decide) nd rfl (by first | exact Or.inl rfl | exact Or.inr rfl))) (fun _ _ _ _ _ => (lts_one (lt_not (lt_val (le_callP G__law_is (hr.mono hj) (by rfl) T.g__law_is T.F__law_is.kp T.b__law_is (la_cons (le_ix (ix_any (hu_of hr)) (real_ix T.nw) (fun _ _ => rfl) (le_var 0) (le_var 2)) (la_cons (le_ix (ix_any (hu_of hr)) (real_ix T.nw) (fun _ _ => rfl) (le_var 1) (le_var 2)) la_nil))))))) (fun _ _ _ _ _ => (le_var 2)))) la_nil)) le_int)))))) ls_nil)
      (ls_one (ls_ret (le_and (le_cmp (op_eqA hr.units) real_eq0 (nomark _) (le_isi (T := .bool) rfl (by rfl) T.n_isinstance bt_isinstance (le_var 0) (pe_bltn (by rfl) T.n_bool bt_bool rfl)) (le_isi (T := .bool) rfl (by rfl) T.n_isinstance bt_isinstance (le_var 1) (pe_bltn (by rfl) T.n_bool bt_bool rfl))) (le_one (le_cmp (op_eqA hr.units) real_eq0 (nomark _) (le_var 0) (le_var 1)))))))
def t_common_divisor : WPS :=
  (sSeq (sWhile (dTest (dBin (eqG true) (dVar 1) (dC (.int 0)))) (sPar 0 1 (dVar 1) (dBin modD (dCallL intG (dCons (dVar 0) dNil)) (dVar 1))))
  (sRet (dVar 0)))
theorem d_common_divisor (T : Tx W mg A) : BodyD P w W mg base 0 N_common_divisor "common_divisor" s_common_divisor A.f_common_divisor t_common_divisor := by
  intro cdv A2 outer s H E hr
  have nd := sc_common_divisor.nd
  exact (ls_cons (ls_while PassesOwn.never (lt_cmp (op_neA hr.units) real_eq1 (nomark _) (le_var 1) le_int) (ls_one (ls_par (i := 0) (j := 1) rfl nd rfl rfl (by decide) rfl rfl (le_var 1) (le_bin op_mod real_int (le_callTy cr_int real_intG (by rfl) T.n_int bt_int (la_cons (le_var 0) la_nil)) (le_var 1)) rfl)))
      (ls_one (ls_ret (le_var 0))))
def t_is_integer : WPS :=
  (sRet (dAndV (dUn (isiG .int) (dVar 0)) (dNotV (dUn (isiG .bool) (dVar 0)))))
theorem d_is_integer (T : Tx W mg A) : BodyD P w W mg base 0 N_is_integer "is_integer" s_is_integer A.f_is_integer t_is_integer := by
  intro cdv A2 outer s H E hr
  have nd := sc_is_integer.nd
  exact (ls_one (ls_ret (le_and (le_isi (T := .int) rfl (by rfl) T.n_isinstance bt_isinstance (le_var 0) (pe_bltn (by rfl) T.n_int bt_int rfl)) (le_one (le_not (le_isi (T := .bool) rfl (by rfl) T.n_isinstance bt_isinstance (le_var 0) (pe_bltn (by rfl) T.n_bool bt_bool rfl)))))))
def t_is_pair : WPS :=
  (sRet (dAndV (dUn (isiG .tuple) (dVar 0)) (dBin (eqG false) (dCallL lenG (dCons (dVar 0) dNil)) (dC (.int 2)))))
theorem d_is_pair (T : Tx W mg A) : BodyD P w W mg base 0 N_is_pair "is_pair" s_is_pair A.f_is_pair t_is_pair := by
  intro cdv A2 outer s H E hr
  have nd := sc_is_pair.nd
  exact (ls_one (ls_ret (le_and (le_isi (T := .tuple) rfl (by rfl) T.n_isinstance bt_isinstance (le_var 0) (pe_bltn (by rfl) T.n_tuple bt_tuple rfl)) (le_one (le_cmp (op_eqA hr.units) real_eq0 (nomark _) (le_callB cr_len real_len (by rfl) T.n_len bt_len (la_cons (le_var 0) la_nil)) le_int)))))
def t_is_fraction : WPS :=
  (sSeq (sIf (dOr (dNot (dTest (dCallP M_is_pair (dCons (dVar 0) dNil)))) (dOr (dNot (dTest (dCallP M_is_integer (dCons (dBin (ixD NW) (dVar 0) (dC (.int 0))) dNil)))) (dOr (dNot (dTest (dCallP M_is_integer (dCons (dBin (ixD NW) (dVar 0) (dC (.int 1))) dNil)))) (dTest (dBin ltG (dBin (ixD NW) (dVar 0) (dC (.int 1))) (dC (.int 1))))))) (sRet (dC (.bl false))) sNext)
  (sRet (dBin (eqG false) (dCallP M_common_divisor (dCons (dCallL absG (dCons (dBin (ixD NW) (dVar 0) (dC (.int 0))) dNil)) (dCons (dBin (ixD NW) (dVar 0) (dC (.int 1))) dNil))) (dC (.int 1)))))
theorem d_is_fraction (T : Tx W mg A) (G_common_divisor : FnOk P w W.K mg base CX0 1 A.f_common_divisor A.fd_common_divisor ["one", "other"] (spP W M_common_divisor)) (G_is_integer : FnOk P w W.K mg base CX0 1 A.f_is_integer A.fd_is_integer ["thing"] (spP W M_is_integer)) (G_is_pair : FnOk P w W.K mg base CX0 1 A.f_is_pair A.fd_is_pair ["thing"] (spP W M_is_pair)) : BodyD P w W mg base 1 N_is_fraction "is_fraction" s_is_fraction A.f_is_fraction t_is_fraction := by
  intro cdv A2 outer s H E hr
  have nd := sc_is_fraction.nd
  exact (ls_cons (ls_if (PW.pt (lw_or (lt_not (lt_val (le_callP G_is_pair (hr.mono (by decide)) (by rfl) T.g_is_pair T.F_is_pair.kp T.b_is_pair (la_cons (le_var 0) la_nil)))) (lw_or (lt_not (lt_val (le_callP G_is_integer (hr.mono (by decide)) (by rfl) T.g_is_integer T.F_is_integer.kp T.b_is_integer (la_cons (le_ix (ix_any (hu_of hr)) (real_ix T.nw) (fun _ _ => rfl) (le_var 0) le_int) la_nil)))) (lw_or (lt_not (lt_val (le_callP G_is_integer (hr.mono (by decide)) (by rfl) T.g_is_integer T.F_is_integer.kp T.b_is_integer (la_cons (le_ix (ix_any (hu_of hr)) (real_ix T.nw) (fun _ _ => rfl) (le_var 0) le_int) la_nil)))) (lw_or1 (lt_cmp op_ltD real_cmp (nomark _) (le_ix (ix_any (hu_of hr)) (real_ix T.nw) (fun _ _ => rfl) (le_var 0) le_int) le_int)))))) (ls_one (ls_ret le_bl)) ls_nil)
      (ls_one (ls_ret (le_cmp (op_eqA hr.units) real_eq0 (nomark _) (le_callP G_common_divisor (hr.mono (by decide)) (by rfl) T.g_common_divisor T.F_common_divisor.kp T.b_common_divisor (la_cons (le_callB call_abs real_absG (by rfl) T.n_abs bt_abs (la_cons (le_ix (ix_any (hu_of hr)) (real_ix T.nw) (fun _ _ => rfl) (le_var 0) le_int) la_nil)) (la_cons (le_ix (ix_any (hu_of hr)) (real_ix T.nw) (fun _ _ => rfl) (le_var 0) le_int) la_nil))) le_int))))
def t_is_table : WPS :=
  (sSeq (sIf (dOr (dNot (dTest (dUn (isiG .dict) (dVar 0)))) (dTest (dBin (eqG true) (dCallL lenG (dCons (dVar 0) dNil)) (dCallL lenG (dCons (dVar 1) dNil))))) (sRet (dC (.bl false))) sNext)
  (sRet (dCallL allG (dCons (dFz (dLc (dIter (dVar 1)) [2] (dSet 2) dYes (dAndV (dBin (inG NW false) (dVar 2) (dVar 0)) (dCallP M_is_fraction (dCons (dBin (ixD NW) (dVar 0) (dVar 2)) dNil))))) dNil))))
theorem d_is_table (T : Tx W mg A) (G_is_fraction : FnOk P w W.K mg base CX0 2 A.f_is_fraction A.fd_is_fraction ["thing"] (spP W M_is_fraction)) : BodyD P w W mg base 2 N_is_table "is_table" s_is_table A.f_is_table t_is_table := by
  intro cdv A2 outer s H E hr
  have nd := sc_is_table.nd
  exact (ls_cons (ls_if (PW.pt (lw_or (lt_not (lt_val (le_isi (T := .dict) rfl (by rfl) T.n_isinstance bt_isinstance (le_var 0) (pe_bltn (by rfl) T.n_dict bt_dict rfl)))) (lw_or1 (lt_cmp (op_neA hr.units) real_eq1 (nomark _) (le_callB cr_len real_len (by rfl) T.n_len bt_len (la_cons (le_var 0) la_nil)) (le_callB cr_len real_len (by rfl) T.n_len bt_len (la_cons (le_var 1) la_nil)))))) (ls_one (ls_ret le_bl)) ls_nil)
      (ls_one (ls_ret (le_callB (cr_all rfl) real_allG (by rfl) T.n_all bt_all (la_cons (le_of_ln (ln_lc (own := [("name", 2)]) rfl nd (li_any rfl (le_var 1)) (blkOk_by (N := N_is_table) (sc := defScope s_is_table) (own := [("name", 2)]) (by decide +kernel)) (fun _ _ _ _ _ => (lgv_name (i := 2) (by decide) nd rfl (by first | exact Or.inl rfl | exact Or.inr rfl))) (fun _ _ _ _ _ => lts_nil) (fun _ _ _ _ _ => (le_and (le_cmp (op_inA (hu_of hr)) (real_in T.nw) rfl (le_var 2) (le_var 0)) (le_one (le_callP G_is_fraction (hr.mono (by decide)) (by rfl) T.g_is_fraction T.F_is_fraction.kp T.b_is_fraction (la_cons (le_ix (ix_any (hu_of hr)) (real_ix T.nw) (fun _ _ => rfl) (le_var 0) (le_var 2)) la_nil))))))) la_nil)))))
def t_codes_of_length : WPS :=
  (sSeq (sNew (dLst (dCons (dC (.str "")) dNil)) 2)
  (sSeq (sFor (dRange1 (dCons (dVar 1) dNil)) (dSet 3) (sNew (dLc2 (dIter (dVar 2)) [4, 5] [5] (dSet 4) dYes (dIter (dVar 0)) (dSet 5) dYes (dBin addD (dVar 4) (dVar 5))) 2))
  (sRet (dVar 2))))
theorem d_codes_of_length (T : Tx W mg A) : BodyD P w W mg base 0 N_codes_of_length "codes_of_length" s_codes_of_length A.f_codes_of_length t_codes_of_length := by
  intro cdv A2 outer s H E hr
  have nd := sc_codes_of_length.nd
  exact (ls_cons (ls_new (i := 2) nd rfl (by first | exact Or.inl rfl | exact Or.inr rfl) (ln_lst (la_cons le_str la_nil)))
      (ls_cons (ls_for PassesOwn.never rfl (li_range1 (by rfl) T.n_range (la_cons (le_var 1) la_nil)) (lg_name (i := 3) nd rfl (by first | exact Or.inl rfl | exact Or.inr rfl)) (ls_one (ls_setLc2 (own := [("code", 4), ("row", 5)]) (i := 2) rfl nd rfl rfl (sw_true rfl rfl rfl (by decide +kernel)) (li_any rfl (le_var 2)) (blkOk_by (N := N_codes_of_length) (sc := defScope s_codes_of_length) (own := [("code", 4), ("row", 5)]) (by decide +kernel)) (by decide) (fun _ _ _ _ _ => (lgv_name (i := 4) (by decide) nd rfl (by first | exact Or.inl rfl | exact Or.inr rfl))) (fun _ _ _ _ _ => lts_nil) (fun _ _ _ _ _ => (li_any rfl (le_var 0))) (fun _ _ _ _ _ => (lgv_name (i := 5) (by decide) nd rfl (by first | exact Or.inl rfl | exact Or.inr rfl))) (fun _ _ _ _ _ => lts_nil) (fun _ _ _ _ _ => (le_bin op_addD real_add (le_var 4) (le_var 5))))))
      (ls_one (ls_ret (le_var 2)))))
def t_stretch_names : WPS :=
  (sSeq (sNew (dCallN M_codes_of_length (dCons (dVar 0) (dCons (dVar 1) dNil))) 2)
  (sSeq (sFor (dRange2 (dCons (dC (.int 1)) (dCons (dVar 1) dNil))) (dSet 3) (sDrop (dExtend 2 (dFz (dLc (dIter (dFz (dCallN M_codes_of_length (dCons (dVar 0) (dCons (dVar 3) dNil))))) [4] (dSet 4) dYes (dBin addD (dC (.str "^")) (dVar 4)))))))
  (sRet (dCallL sortedG2 (dCons (dVar 2) dNil)))))
theorem d_stretch_names (T : Tx W mg A) (G_codes_of_length : FnOk P w W.K mg base CX0 1 A.f_codes_of_length A.fd_codes_of_length ["rows", "length"] (spN W M_codes_of_length)) : BodyD P w W mg base 1 N_stretch_names "stretch_names" s_stretch_names A.f_stretch_names t_stretch_names := by
  intro cdv A2 outer s H E hr
  have nd := sc_stretch_names.nd
  exact (ls_cons (ls_new (i := 2) nd rfl (by first | exact Or.inl rfl | exact Or.inr rfl) (ln_callN G_codes_of_length (hr.mono (by decide)) (by rfl) T.g_codes_of_length T.F_codes_of_length.kp T.b_codes_of_length (la_cons (le_var 0) (la_cons (le_var 1) la_nil))))
      (ls_cons (ls_for PassesOwn.never rfl (li_range2 (by rfl) T.n_range (la_cons le_int (la_cons (le_var 1) la_nil))) (lg_name (i := 3) nd rfl (by first | exact Or.inl rfl | exact Or.inr rfl)) (ls_one (ls_expr (le_extend (i := 2) rfl (pv 2) (le_of_ln (ln_lc (own := [("code", 4)]) rfl nd (li_any rfl (le_of_ln (ln_callN G_codes_of_length (hr.mono (by decide)) (by rfl) T.g_codes_of_length T.F_codes_of_length.kp T.b_codes_of_length (la_cons (le_var 0) (la_cons (le_var 3) la_nil))))) (blkOk_by (N := N_stretch_names) (sc := defScope s_stretch_names) (own := [("code", 4)]) (by decide +kernel)) (fun _ _ _ _ _ => (lgv_name (i := 4) (by decide) nd rfl (by first | exact Or.inl rfl | exact Or.inr rfl))) (fun _ _ _ _ _ => lts_nil) (fun _ _ _ _ _ => (le_bin op_addD real_add le_str (le_var 4)))))))))
      (ls_one (ls_ret (le_callB (cr_sortedB rfl) real_sortedG2 (by rfl) T.n_sorted bt_sorted (la_cons (le_var 2) la_nil))))))
def t_is_within : WPS :=
  (sRet (dAndV (dCallP M_is_integer (dCons (dVar 0) dNil)) (dChain leG leG (dVar 1) (dVar 0) (dVar 2))))
theorem d_is_within (T : Tx W mg A) (G_is_integer : FnOk P w W.K mg base CX0 1 A.f_is_integer A.fd_is_integer ["thing"] (spP W M_is_integer)) : BodyD P w W mg base 1 N_is_within "is_within" s_is_within A.f_is_within t_is_within := by
  intro cdv A2 outer s H E hr
  have nd := sc_is_within.nd
  exact (ls_one (ls_ret (le_and (le_callP G_is_integer (hr.mono (by decide)) (by rfl) T.g_is_integer T.F_is_integer.kp T.b_is_integer (la_cons (le_var 0) la_nil)) (le_one (le_chain op_leD op_leD real_cmp real_cmp (le_var 1) (le_var 0) (le_var 2))))))
def t_is_width : WPS :=
  (sRet (dCallP M_is_within (dCons (dVar 0) (dCons (dC (.int 1)) (dCons (dC (.int 3)) dNil)))))
theorem d_is_width (T : Tx W mg A) (G_is_within : FnOk P w W.K mg base CX0 2 A.f_is_within A.fd_is_within ["thing", "least", "most"] (spP W M_is_within)) : BodyD P w W mg base 2 N_is_width "is_width" s_is_width A.f_is_width t_is_width := by
  intro cdv A2 outer s H E hr
  have nd := sc_is_width.nd
  exact (ls_one (ls_ret (le_callP G_is_within (hr.mono (by decide)) (by rfl) T.g_is_within T.F_is_within.kp T.b_is_within (la_cons (le_var 0) (la_cons le_int (la_cons (le_globI (by rfl) T.c_MOST_WIDTH) la_nil))))))
def t_is_ascending : WPS :=
  (sSeq (sFor (dRange2 (dCons (dC (.int 1)) (dCons (dCallL lenG (dCons (dVar 0) dNil)) dNil))) (dSet 1) (sIf (dTest (dBin geG (dBin (ixD NW) (dVar 0) (dBin subD (dVar 1) (dC (.int 1)))) (dBin (ixD NW) (dVar 0) (dVar 1)))) (sRet (dC (.bl false))) sNext))
  (sRet (dC (.bl true))))
theorem d_is_ascending (T : Tx W mg A) : BodyD P w W mg base 0 N_is_ascending "is_ascending" s_is_ascending A.f_is_ascending t_is_ascending := by
  intro cdv A2 outer s H E hr
  have nd := sc_is_ascending.nd
  exact (ls_cons (ls_for PassesOwn.never rfl (li_range2 (by rfl) T.n_range (la_cons le_int (la_cons (le_callB cr_len real_len (by rfl) T.n_len bt_len (la_cons (le_var 0) la_nil)) la_nil))) (lg_name (i := 1) nd rfl (by first | exact Or.inl rfl | exact Or.inr rfl)) (ls_one (ls_if (lt_cmp op_geD real_cmp (nomark _) (le_ix (ix_any (hu_of hr)) (real_ix T.nw) (fun _ _ => rfl) (le_var 0) (le_bin op_subD real_int (le_var 1) le_int)) (le_ix (ix_any (hu_of hr)) (real_ix T.nw) (fun _ _ => rfl) (le_var 0) (le_var 1))) (ls_one (ls_ret le_bl)) ls_nil)))
      (ls_one (ls_ret le_bl)))
def t_is_string_of : WPS :=
  (sSeq (sIf (dNot (dTest (dUn (isiG .str) (dVar 0)))) (sRet (dC (.bl false))) sNext)
  (sSeq (sFor (dIter (dVar 0)) (dSet 2) (sIf (dTest (dBin (inG NW true) (dVar 2) (dVar 1))) (sRet (dC (.bl false))) sNext))
  (sRet (dC (.bl true)))))
theorem d_is_string_of (T : Tx W mg A) : BodyD P w W mg base 0 N_is_string_of "is_string_of" s_is_string_of A.f_is_string_of t_is_string_of := by
  intro cdv A2 outer s H E hr
  have nd := sc_is_string_of.nd
  exact (ls_cons (ls_if (lt_not (lt_val (le_isi (T := .str) rfl (by rfl) T.n_isinstance bt_isinstance (le_var 0) (pe_bltn (by rfl) T.n_str bt_str rfl)))) (ls_one (ls_ret le_bl)) ls_nil)
      (ls_cons (ls_for PassesOwn.never rfl (li_any rfl (le_var 0)) (lg_name (i := 2) nd rfl (by first | exact Or.inl rfl | exact Or.inr rfl)) (ls_one (ls_if (lt_cmp (op_notInA (hu_of hr)) (real_in T.nw) rfl (le_var 2) (le_var 1)) (ls_one (ls_ret le_bl)) ls_nil)))
      (ls_one (ls_ret le_bl))))
def t_is_word : WPS :=
  (sRet (dAndV (dCallP M_is_string_of (dCons (dVar 0) (dCons (dC (.str "abcdefghijklmnopqrstuvwxyz")) dNil))) (dBin gtG (dCallL lenG (dCons (dVar 0) dNil)) (dC (.int 0)))))
theorem d_is_word (T : Tx W mg A) (G_is_string_of : FnOk P w W.K mg base CX0 1 A.f_is_string_of A.fd_is_string_of ["thing", "signs"] (spP W M_is_string_of)) : BodyD P w W mg base 1 N_is_word "is_word" s_is_word A.f_is_word t_is_word := by
  intro cdv A2 outer s H E hr
  have nd := sc_is_word.nd
  exact (ls_one (ls_ret (le_and (le_callP G_is_string_of (hr.mono (by decide)) (by rfl) T.g_is_string_of T.F_is_string_of.kp T.b_is_string_of (la_cons (le_var 0) (la_cons (le_globS (by rfl) T.c_SMALL) la_nil))) (le_one (le_cmp op_gtD real_cmp (nomark _) (le_callB cr_len real_len (by rfl) T.n_len bt_len (la_cons (le_var 0) la_nil)) le_int)))))
def t_is_rows : WPS :=
  (sRet (dAndV (dCallP M_is_word (dCons (dVar 0) dNil)) (dAndV (dBin leG (dCallL lenG (dCons (dVar 0) dNil)) (dC (.int 4))) (dCallP M_is_ascending (dCons (dVar 0) dNil)))))
theorem d_is_rows (T : Tx W mg A) (G_is_ascending : FnOk P w W.K mg base CX0 1 A.f_is_ascending A.fd_is_ascending ["word"] (spP W M_is_ascending)) (G_is_word : FnOk P w W.K mg base CX0 2 A.f_is_word A.fd_is_word ["thing"] (spP W M_is_word)) : BodyD P w W mg base 2 N_is_rows "is_rows" s_is_rows A.f_is_rows t_is_rows := by
  intro cdv A2 outer s H E hr
  have nd := sc_is_rows.nd
  exact (ls_one (ls_ret (le_and (le_callP G_is_word (hr.mono (by decide)) (by rfl) T.g_is_word T.F_is_word.kp T.b_is_word (la_cons (le_var 0) la_nil)) (le_and (le_cmp op_leD real_cmp (nomark _) (le_callB cr_len real_len (by rfl) T.n_len bt_len (la_cons (le_var 0) la_nil)) (le_globI (by rfl) T.c_MOST_ROWS)) (le_one (le_callP G_is_ascending (hr.mono (by decide)) (by rfl) T.g_is_ascending T.F_is_ascending.kp T.b_is_ascending (la_cons (le_var 0) la_nil)))))))
def t_Prices_init : WPS :=
  (sSeq (sIf (dNot (dTest (dCallP M_is_rows (dCons (dVar 1) dNil)))) sNever sNext)
  (sSeq (sIf (dNot (dTest (dCallP M_is_width (dCons (dVar 2) dNil)))) sNever sNext)
  (sSeq (sAsg (dCallP M_stretch_names (dCons (dVar 1) (dCons (dVar 2) dNil))) (dSet 4))
  (sSeq (sIf (dNot (dTest (dCallP M_is_table (dCons (dVar 3) (dCons (dVar 4) dNil))))) sNever sNext)
  (sSeq (sFldD 0 0 "rows" (dVar 1))
  (sSeq (sFldD 0 0 "width" (dVar 2))
  (sFldD 0 0 "kept_table" (dFz (dDc (dIter (dVar 4)) [5] (dSet 5) dYes (dVar 5) (dBin (ixD NW) (dVar 3) (dVar 5)))))))))))
theorem d_Prices_init (T : Tx W mg A) (G_is_table : FnOk P w W.K mg base CX0 3 A.f_is_table A.fd_is_table ["thing", "names"] (spP W M_is_table)) (G_stretch_names : FnOk P w W.K mg base CX0 2 A.f_stretch_names A.fd_stretch_names ["rows", "width"] (spP W M_stretch_names)) (G_is_width : FnOk P w W.K mg base CX0 3 A.f_is_width A.fd_is_width ["thing"] (spP W M_is_width)) (G_is_rows : FnOk P w W.K mg base CX0 3 A.f_is_rows A.fd_is_rows ["thing"] (spP W M_is_rows)) : BodyD P w W mg base 3 N_Prices_init "Prices.__init__" s_Prices_init A.f_Prices_init t_Prices_init := by
  intro cdv A2 outer s H E hr
  have nd := sc_Prices_init.nd
  exact (ls_cons (ls_if (lt_not (lt_val (le_callP G_is_rows (hr.mono (by decide)) (by rfl) T.g_is_rows T.F_is_rows.kp T.b_is_rows (la_cons (le_var 1) la_nil)))) (ls_one ls_never) ls_nil)
      (ls_cons (ls_if (lt_not (lt_val (le_callP G_is_width (hr.mono (by decide)) (by rfl) T.g_is_width T.F_is_width.kp T.b_is_width (la_cons (le_var 2) la_nil)))) (ls_one ls_never) ls_nil)
      (ls_cons (ls_set (i := 4) nd rfl (by first | exact Or.inl rfl | exact Or.inr rfl) (le_callP G_stretch_names (hr.mono (by decide)) (by rfl) T.g_stretch_names T.F_stretch_names.kp T.b_stretch_names (la_cons (le_var 1) (la_cons (le_var 2) la_nil))))
      (ls_cons (ls_if (lt_not (lt_val (le_callP G_is_table (hr.mono (by decide)) (by rfl) T.g_is_table T.F_is_table.kp T.b_is_table (la_cons (le_var 3) (la_cons (le_var 4) la_nil))))) (ls_one ls_never) ls_nil)
      (ls_cons (ls_fld (c := 0) (i := 0) rfl T.cl_Prices T.no_Prices_rows (pv 0) (le_var 1))
      (ls_cons (ls_fld (c := 0) (i := 0) rfl T.cl_Prices T.no_Prices_width (pv 0) (le_var 2))
      (ls_one (ls_fld (c := 0) (i := 0) rfl T.cl_Prices T.no_Prices_kept_table (pv 0) (le_of_ln (ln_dc (own := [("name", 5)]) rfl nd (li_any rfl (le_var 4)) (blkOk_by (N := N_Prices_init) (sc := defScope s_Prices_init) (own := [("name", 5)]) (by decide +kernel)) (fun _ _ _ _ _ => (lgv_name (i := 5) (by decide) nd rfl (by first | exact Or.inl rfl | exact Or.inr rfl))) (fun _ _ _ _ _ => lts_nil) (fun _ _ _ _ _ => (le_var 5)) (fun _ _ _ _ _ => (le_ix (ix_any (hu_of hr)) (real_ix T.nw) (fun _ _ => rfl) (le_var 3) (le_var 5)))))))))))))
def t_is_stretch : WPS :=
  (sRet (dCallP M_is_word (dCons (dIf (dTest (dMeth "str" startsG (dVar 0) (dCons (dC (.str "^")) dNil))) (dSlice (dVar 0) (dPart (dC (.int 1))) dNo) (dVar 0)) dNil)))
theorem d_is_stretch (T : Tx W mg A) (G_is_word : FnOk P w W.K mg base CX0 2 A.f_is_word A.fd_is_word ["thing"] (spP W M_is_word)) : BodyD P w W mg base 2 N_is_stretch "is_stretch" s_is_stretch A.f_is_stretch t_is_stretch := by
  intro cdv A2 outer s H E hr
  have nd := sc_is_stretch.nd
  exact (ls_one (ls_ret (le_callP G_is_word (hr.mono (by decide)) (by rfl) T.g_is_word T.F_is_word.kp T.b_is_word (la_cons (le_if (lt_val (le_bm rfl PySem.F.plainAttrs_str PySem.F.slot_str_startswith PySem.F.type_str_startswith mt_startswith real_startsG (le_var 0) (la_cons le_str la_nil))) (le_slice rfl (le_var 0) (lo_some le_int) lo_none) (le_var 0)) la_nil))))
def t_number_of : WPS :=
  (sSeq (sIf (dOr (dNot (dTest (dCallP M_is_string_of (dCons (dVar 0) (dCons (dC (.str "0123456789")) dNil))))) (dNot (dTest (dChain leG leG (dC (.int 1)) (dCallL lenG (dCons (dVar 0) dNil)) (dVar 1))))) (sRet (dC .non)) sNext)
  (sSeq (sIf (dAnd (dTest (dBin gtG (dCallL lenG (dCons (dVar 0) dNil)) (dC (.int 1)))) (dTest (dBin (eqG false) (dBin (ixD NW) (dVar 0) (dC (.int 0))) (dC (.str "0"))))) (sRet (dC .non)) sNext)
  (sRet (dCallL intG (dCons (dVar 0) dNil)))))
theorem d_number_of (T : Tx W mg A) (G_is_string_of : FnOk P w W.K mg base CX0 1 A.f_is_string_of A.fd_is_string_of ["thing", "signs"] (spP W M_is_string_of)) : BodyD P w W mg base 1 N_number_of "number_of" s_number_of A.f_number_of t_number_of := by
  intro cdv A2 outer s H E hr
  have nd := sc_number_of.nd
  exact (ls_cons (ls_if (PW.pt (lw_or (lt_not (lt_val (le_callP G_is_string_of (hr.mono (by decide)) (by rfl) T.g_is_string_of T.F_is_string_of.kp T.b_is_string_of (la_cons (le_var 0) (la_cons (le_globS (by rfl) T.c_FIGURES) la_nil))))) (lw_or1 (lt_not (lt_chain op_leD op_leD real_cmp real_cmp le_int (le_callB cr_len real_len (by rfl) T.n_len bt_len (la_cons (le_var 0) la_nil)) (le_var 1)))))) (ls_one (ls_ret le_non)) ls_nil)
      (ls_cons (ls_if (PW.pt (lw_and (lt_cmp op_gtD real_cmp (nomark _) (le_callB cr_len real_len (by rfl) T.n_len bt_len (la_cons (le_var 0) la_nil)) le_int) (lw_and1 (lt_cmp (op_eqA hr.units) real_eq0 (nomark _) (le_ix (ix_any (hu_of hr)) (real_ix T.nw) (fun _ _ => rfl) (le_var 0) le_int) le_str)))) (ls_one (ls_ret le_non)) ls_nil)
      (ls_one (ls_ret (le_callTy cr_int real_intG (by rfl) T.n_int bt_int (la_cons (le_var 0) la_nil))))))
def t_fraction_of : WPS :=
  (sSeq (sAsg (dMeth "str" partitionG (dVar 0) (dCons (dC (.str "/")) dNil)) (dTupT 3 (dGCons (dSet 1) (dGCons (dSet 2) (dGCons (dSet 3) dGNil)))))
  (sSeq (sAsg (dCallP M_number_of (dCons (dIf (dTest (dMeth "str" startsG (dVar 1) (dCons (dC (.str "-")) dNil))) (dSlice (dVar 1) (dPart (dC (.int 1))) dNo) (dVar 1)) (dCons (dC (.int 60)) dNil))) (dSet 4))
  (sSeq (sAsg (dIf (dTest (dBin (eqG false) (dVar 2) (dC (.str "/")))) (dCallP M_number_of (dCons (dVar 3) (dCons (dC (.int 60)) dNil))) (dC (.int 1))) (dSet 5))
  (sSeq (sIf (dOr (dTest (dUn (isNG1 false) (dVar 4))) (dOr (dTest (dUn (isNG1 false) (dVar 5))) (dOr (dAnd (dTest (dBin (eqG false) (dVar 2) (dC (.str "/")))) (dTest (dBin ltG (dVar 5) (dC (.int 2))))) (dTest (dBin (eqG false) (dVar 1) (dC (.str "-0"))))))) (sRet (dC .non)) sNext)
  (sRet (dTup (dCons (dIf (dTest (dMeth "str" startsG (dVar 1) (dCons (dC (.str "-")) dNil))) (dUn negD (dVar 4)) (dVar 4)) (dCons (dVar 5) dNil))))))))
theorem d_fraction_of (T : Tx W mg A) (G_number_of : FnOk P w W.K mg base CX0 2 A.f_number_of A.fd_number_of ["word", "figures"] (spP W M_number_of)) : BodyD P w W mg base 2 N_fraction_of "fraction_of" s_fraction_of A.f_fraction_of t_fraction_of := by
  intro cdv A2 outer s H E hr
  have nd := sc_fraction_of.nd
  exact (ls_cons (ls_asg (le_bm rfl PySem.F.plainAttrs_str PySem.F.slot_str_partition PySem.F.type_str_partition mt_partition real_partitionG (le_var 0) (la_cons le_str la_nil)) (lg_tup rfl rfl (lgs_cons (lg_name (i := 1) nd rfl (by first | exact Or.inl rfl | exact Or.inr rfl)) (lgs_cons (lg_name (i := 2) nd rfl (by first | exact Or.inl rfl | exact Or.inr rfl)) (lgs_cons (lg_name (i := 3) nd rfl (by first | exact Or.inl rfl | exact Or.inr rfl)) lgs_nil)))))
      (ls_cons (ls_set (i := 4) nd rfl (by first | exact Or.inl rfl | exact Or.inr rfl) (le_callP G_number_of (hr.mono (by decide)) (by rfl) T.g_number_of T.F_number_of.kp T.b_number_of (la_cons (le_if (lt_val (le_bm rfl PySem.F.plainAttrs_str PySem.F.slot_str_startswith PySem.F.type_str_startswith mt_startswith real_startsG (le_var 1) (la_cons le_str la_nil))) (le_slice rfl (le_var 1) (lo_some le_int) lo_none) (le_var 1)) (la_cons (le_globI (by rfl) T.c_MOST_PARTS) la_nil))))
      (ls_cons (ls_set (i := 5) nd rfl (by first | exact Or.inl rfl | exact Or.inr rfl) (le_if (lt_cmp (op_eqA hr.units) real_eq0 (nomark _) (le_var 2) le_str) (le_callP G_number_of (hr.mono (by decide)) (by rfl) T.g_number_of T.F_number_of.kp T.b_number_of (la_cons (le_var 3) (la_cons (le_globI (by rfl) T.c_MOST_PARTS) la_nil))) le_int))
      (ls_cons (ls_if (PW.pt (lw_or (lt_isN (le_var 4)) (lw_or (lt_isN (le_var 5)) (lw_or (PW.pt (lw_and (lt_cmp (op_eqA hr.units) real_eq0 (nomark _) (le_var 2) le_str) (lw_and1 (lt_cmp op_ltD real_cmp (nomark _) (le_var 5) le_int)))) (lw_or1 (lt_cmp (op_eqA hr.units) real_eq0 (nomark _) (le_var 1) le_str)))))) (ls_one (ls_ret le_non)) ls_nil)
      (ls_one (ls_ret (le_tup (la_cons (le_if (lt_val (le_bm rfl PySem.F.plainAttrs_str PySem.F.slot_str_startswith PySem.F.type_str_startswith mt_startswith real_startsG (le_var 1) (la_cons le_str la_nil))) (le_un un_neg real_neg (le_var 4)) (le_var 4)) (la_cons (le_var 5) la_nil)))))))))
def t_head_of : WPS :=
  (sSeq (sAsg (dMeth "str" splitG (dVar 0) (dCons (dC (.str " ")) dNil)) (dSet 3))
  (sSeq (sIf (dOr (dTest (dBin (eqG true) (dCallL lenG (dCons (dVar 3) dNil)) (dC (.int 3)))) (dOr (dTest (dBin (eqG true) (dBin (ixD NW) (dVar 3) (dC (.int 0))) (dVar 1))) (dNot (dTest (dCallP M_is_word (dCons (dBin (ixD NW) (dVar 3) (dC (.int 1))) dNil)))))) sNever sNext)
  (sSeq (sIf (dOr (dTest (dBin (eqG true) (dCallL lenG (dCons (dBin (ixD NW) (dVar 3) (dC (.int 2))) dNil)) (dC (.int 1)))) (dTest (dBin (inG NW true) (dBin (ixD NW) (dVar 3) (dC (.int 2))) (dVar 2)))) sNever sNext)
  (sRet (dTup (dCons (dBin (ixD NW) (dVar 3) (dC (.int 1))) (dCons (dCallL intG (dCons (dBin (ixD NW) (dVar 3) (dC (.int 2))) dNil)) dNil)))))))
theorem d_head_of (T : Tx W mg A) (G_is_word : FnOk P w W.K mg base CX0 2 A.f_is_word A.fd_is_word ["thing"] (spP W M_is_word)) : BodyD P w W mg base 2 N_head_of "head_of" s_head_of A.f_head_of t_head_of := by
  intro cdv A2 outer s H E hr
  have nd := sc_head_of.nd
  exact (ls_cons (ls_set (i := 3) nd rfl (by first | exact Or.inl rfl | exact Or.inr rfl) (le_bm rfl PySem.F.plainAttrs_str PySem.F.slot_str_split PySem.F.type_str_split mt_split real_splitG (le_var 0) (la_cons le_str la_nil)))
      (ls_cons (ls_if (PW.pt (lw_or (lt_cmp (op_neA hr.units) real_eq1 (nomark _) (le_callB cr_len real_len (by rfl) T.n_len bt_len (la_cons (le_var 3) la_nil)) le_int) (lw_or (lt_cmp (op_neA hr.units) real_eq1 (nomark _) (le_ix (ix_any (hu_of hr)) (real_ix T.nw) (fun _ _ => rfl) (le_var 3) le_int) (le_var 1)) (lw_or1 (lt_not (lt_val (le_callP G_is_word (hr.mono (by decide)) (by rfl) T.g_is_word T.F_is_word.kp T.b_is_word (la_cons (le_ix (ix_any (hu_of hr)) (real_ix T.nw) (fun _ _ => rfl) (le_var 3) le_int) la_nil)))))))) (ls_one ls_never) ls_nil)
      (ls_cons (ls_if (PW.pt (lw_or (lt_cmp (op_neA hr.units) real_eq1 (nomark _) (le_callB cr_len real_len (by rfl) T.n_len bt_len (la_cons (le_ix (ix_any (hu_of hr)) (real_ix T.nw) (fun _ _ => rfl) (le_var 3) le_int) la_nil)) le_int) (lw_or1 (lt_cmp (op_notInA (hu_of hr)) (real_in T.nw) rfl (le_ix (ix_any (hu_of hr)) (real_ix T.nw) (fun _ _ => rfl) (le_var 3) le_int) (le_var 2))))) (ls_one ls_never) ls_nil)
      (ls_one (ls_ret (le_tup (la_cons (le_ix (ix_any (hu_of hr)) (real_ix T.nw) (fun _ _ => rfl) (le_var 3) le_int) (la_cons (le_callTy cr_int real_intG (by rfl) T.n_int bt_int (la_cons (le_ix (ix_any (hu_of hr)) (real_ix T.nw) (fun _ _ => rfl) (le_var 3) le_int) la_nil)) la_nil))))))))
def t_lines_of : WPS :=
  (sSeq (sIf (dNot (dTest (dUn (isiG .str) (dVar 0)))) sNever sNext)
  (sSeq (sAsg (dMeth "str" splitG (dVar 0) (dCons (dC (.str "\n")) dNil)) (dSet 1))
  (sRet (dTup (dCons (dSlice (dVar 1) dNo (dPart (dUn negD (dC (.int 1))))) (dCons (dBin (ixD NW) (dVar 1) (dUn negD (dC (.int 1)))) dNil))))))
theorem d_lines_of (T : Tx W mg A) : BodyD P w W mg base 0 N_lines_of "lines_of" s_lines_of A.f_lines_of t_lines_of := by
  intro cdv A2 outer s H E hr
  have nd := sc_lines_of.nd
  exact (ls_cons (ls_if (lt_not (lt_val (le_isi (T := .str) rfl (by rfl) T.n_isinstance bt_isinstance (le_var 0) (pe_bltn (by rfl) T.n_str bt_str rfl)))) (ls_one ls_never) ls_nil)
      (ls_cons (ls_set (i := 1) nd rfl (by first | exact Or.inl rfl | exact Or.inr rfl) (le_bm rfl PySem.F.plainAttrs_str PySem.F.slot_str_split PySem.F.type_str_split mt_split real_splitG (le_var 0) (la_cons le_str la_nil)))
      (ls_one (ls_ret (le_tup (la_cons (le_slice rfl (le_var 1) lo_none (lo_some (le_un un_neg real_neg le_int))) (la_cons (le_ix (ix_any (hu_of hr)) (real_ix T.nw) (fun _ _ => rfl) (le_var 1) (le_un un_neg real_neg le_int)) la_nil)))))))
def t_read_prices : WPS :=
  (sSeq (sAsg (dCallP M_lines_of (dCons (dVar 0) dNil)) (dTupT 2 (dGCons (dSet 1) (dGCons (dSet 2) dGNil))))
  (sSeq (sIf (dTest (dBin (eqG false) (dCallL lenG (dCons (dVar 1) dNil)) (dC (.int 0)))) sNever sNext)
  (sSeq (sAsg (dCallP M_head_of (dCons (dBin (ixD NW) (dVar 1) (dC (.int 0))) (dCons (dC (.str "prices")) (dCons (dC (.str "0123456789")) dNil)))) (dTupT 2 (dGCons (dSet 3) (dGCons (dSet 4) dGNil))))
  (sSeq (sNew dDK 5)
  (sSeq (sAsg (dC (.str "")) (dSet 6))
  (sSeq (sFor (dEnum (dCons (dSlice (dVar 1) (dPart (dC (.int 1))) dNo) dNil)) (dTupT 2 (dGCons (dSet 7) (dGCons (dSet 8) dGNil))) (sSeq (sAsg (dMeth "str" partitionG (dVar 8) (dCons (dC (.str " ")) dNil)) (dTupT 3 (dGCons (dSet 9) (dGCons (dSet 10) (dGCons (dSet 11) dGNil)))))
  (sSeq (sAsg (dCallP M_fraction_of (dCons (dVar 11) dNil)) (dSet 12))
  (sSeq (sIf (dOr (dNot (dTest (dCallP M_is_stretch (dCons (dVar 9) dNil)))) (dOr (dTest (dUn (isNG1 false) (dVar 12))) (dNot (dTest (dBin ltG (dVar 6) (dVar 9)))))) sNever sNext)
  (sSeq (sStore NW 5 (dVar 12) (dVar 9))
  (sAsg (dVar 9) (dSet 6)))))))
  (sSeq (sIf (dOr (dTest (dBin (eqG false) (dCallL lenG (dCons (dVar 5) dNil)) (dC (.int 0)))) (dTest (dBin (eqG true) (dVar 2) (dC (.str ""))))) sNever sNext)
  (sRetNew (dMake 0 M_Prices_init (dCons (dVar 3) (dCons (dVar 4) (dCons (dVar 5) dNil))))))))))))
theorem d_read_prices (T : Tx W mg A) (G_Prices_init : FnOk P w W.K mg base CX0 4 A.f_Prices_init A.fd_Prices_init ["self", "rows", "width", "table"] (spT W M_Prices_init)) (G_is_stretch : FnOk P w W.K mg base CX0 3 A.f_is_stretch A.fd_is_stretch ["word"] (spP W M_is_stretch)) (G_fraction_of : FnOk P w W.K mg base CX0 3 A.f_fraction_of A.fd_fraction_of ["word"] (spP W M_fraction_of)) (G_head_of : FnOk P w W.K mg base CX0 3 A.f_head_of A.fd_head_of ["line", "word", "figures"] (spP W M_head_of)) (G_lines_of : FnOk P w W.K mg base CX0 1 A.f_lines_of A.fd_lines_of ["text"] (spP W M_lines_of)) : BodyD P w W mg base 5 N_read_prices "read_prices" s_read_prices A.f_read_prices t_read_prices := by
  intro cdv A2 outer s H E hr
  have nd := sc_read_prices.nd
  exact (ls_cons (ls_asg (le_callP G_lines_of (hr.mono (by decide)) (by rfl) T.g_lines_of T.F_lines_of.kp T.b_lines_of (la_cons (le_var 0) la_nil)) (lg_tup rfl rfl (lgs_cons (lg_name (i := 1) nd rfl (by first | exact Or.inl rfl | exact Or.inr rfl)) (lgs_cons (lg_name (i := 2) nd rfl (by first | exact Or.inl rfl | exact Or.inr rfl)) lgs_nil))))
      (ls_cons (ls_if (lt_cmp (op_eqA hr.units) real_eq0 (nomark _) (le_callB cr_len real_len (by rfl) T.n_len bt_len (la_cons (le_var 1) la_nil)) le_int) (ls_one ls_never) ls_nil)
      (ls_cons (ls_asg (le_callP G_head_of (hr.mono (by decide)) (by rfl) T.g_head_of T.F_head_of.kp T.b_head_of (la_cons (le_ix (ix_any (hu_of hr)) (real_ix T.nw) (fun _ _ => rfl) (le_var 1) le_int) (la_cons le_str (la_cons (le_globS (by rfl) T.c_FIGURES) la_nil)))) (lg_tup rfl rfl (lgs_cons (lg_name (i := 3) nd rfl (by first | exact Or.inl rfl | exact Or.inr rfl)) (lgs_cons (lg_name (i := 4) nd rfl (by first | exact Or.inl rfl | exact Or.inr rfl)) lgs_nil))))
      (ls_cons (ls_new (i := 5) nd rfl (by first | exact Or.inl rfl | exact Or.inr rfl) ln_dK)
      (ls_cons (ls_set (i := 6) nd rfl (by first | exact Or.inl rfl | exact Or.inr rfl) le_str)
      (ls_cons (ls_for PassesOwn.never rfl (li_enum rfl (by rfl) T.n_enumerate (la_cons (le_slice rfl (le_var 1) (lo_some le_int) lo_none) la_nil)) (lg_tup rfl rfl (lgs_cons (lg_name (i := 7) nd rfl (by first | exact Or.inl rfl | exact Or.inr rfl)) (lgs_cons (lg_name (i := 8) nd rfl (by first | exact Or.inl rfl | exact Or.inr rfl)) lgs_nil))) (ls_cons (ls_asg (le_bm rfl PySem.F.plainAttrs_str PySem.F.slot_str_partition PySem.F.type_str_partition mt_partition real_partitionG (le_var 8) (la_cons le_str la_nil)) (lg_tup rfl rfl (lgs_cons (lg_name (i := 9) nd rfl (by first | exact Or.inl rfl | exact Or.inr rfl)) (lgs_cons (lg_name (i := 10) nd rfl (by first | exact Or.inl rfl | exact Or.inr rfl)) (lgs_cons (lg_name (i := 11) nd rfl (by first | exact Or.inl rfl | exact Or.inr rfl)) lgs_nil)))))
      (ls_cons (ls_set (i := 12) nd rfl (by first | exact Or.inl rfl | exact Or.inr rfl) (le_callP G_fraction_of (hr.mono (by decide)) (by rfl) T.g_fraction_of T.F_fraction_of.kp T.b_fraction_of (la_cons (le_var 11) la_nil)))
      (ls_cons (ls_if (PW.pt (lw_or (lt_not (lt_val (le_callP G_is_stretch (hr.mono (by decide)) (by rfl) T.g_is_stretch T.F_is_stretch.kp T.b_is_stretch (la_cons (le_var 9) la_nil)))) (lw_or (lt_isN (le_var 12)) (lw_or1 (lt_not (lt_cmp op_ltD real_cmp (nomark _) (le_var 6) (le_var 9))))))) (ls_one ls_never) ls_nil)
      (ls_cons (ls_store (i := 5) T.nw (hu_of hr) (pv 5) (le_var 12) (le_var 9) (by intro _; rfl))
      (ls_one (ls_set (i := 6) nd rfl (by first | exact Or.inl rfl | exact Or.inr rfl) (le_var 9))))))))
      (ls_cons (ls_if (PW.pt (lw_or (lt_cmp (op_eqA hr.units) real_eq0 (nomark _) (le_callB cr_len real_len (by rfl) T.n_len bt_len (la_cons (le_var 5) la_nil)) le_int) (lw_or1 (lt_cmp (op_neA hr.units) real_eq1 (nomark _) (le_var 2) le_str)))) (ls_one ls_never) ls_nil)
      (ls_one (ls_retNew (ln_make T.mk_Prices G_Prices_init (hr.mono (by decide)) (by rfl) T.g_Prices T.b_Prices_init (la_cons (le_var 3) (la_cons (le_var 4) (la_cons (le_var 5) la_nil)))))))))))))
def t__law_holds : WPS :=
  (sSeq (sAsg (dCallP M__law_prices_text (dCons (dVar 0) (dCons (dVar 1) (dCons (dVar 2) dNil)))) (dSet 4))
  (sSeq (sIf (dTest (dBin (eqG true) (dCallP M_prices_text (dCons (dVar 3) dNil)) (dVar 4))) (sRet (dC (.bl false))) sNext)
  (sSeq (sNew (dCallN M_read_prices (dCons (dVar 4) dNil)) 5)
  (sSeq (sIf (dOr (dNot (dTest (dEqI 0 M_Prices_eq (dVar 5) (dVar 3)))) (dOr (dNot (dTest (dEqI 0 M_Prices_eq (dVar 3) (dVar 5)))) (dNot (dTest (dCallP M__law_is (dCons (dTup (dCons (dFld 0 "rows" (dVar 5)) (dCons (dFld 0 "width" (dVar 5)) dNil))) (dCons (dTup (dCons (dVar 0) (dCons (dVar 1) dNil))) dNil))))))) (sRet (dC (.bl false))) sNext)
  (sSeq (sNew (dProp 0 M_Prices_table (dVar 5)) 6)
  (sSeq (sIf (dOr (dNot (dTest (dUn (isiG .dict) (dVar 6)))) (dTest (dBin (eqG true) (dCallL sortedG2 (dCons (dCallL listG2 (dCons (dVar 6) dNil)) dNil)) (dCallL sortedG2 (dCons (dCallL listG2 (dCons (dVar 2) dNil)) dNil))))) (sRet (dC (.bl false))) sNext)
  (sSeq (sIf (dTest (dBin gtG (dCallL lenG (dCons (dFz (dLc (dIter (dCallL listG2 (dCons (dVar 2) dNil))) [7] (dSet 7) (dNot (dTest (dCallP M__law_is (dCons (dBin (ixD NW) (dVar 6) (dVar 7)) (dCons (dBin (ixD NW) (dVar 2) (dVar 7)) dNil))))) (dVar 7))) dNil)) (dC (.int 0)))) (sRet (dC (.bl false))) sNext)
  (sSeq (sDrop (dClear 6))
  (sRet (dBin (eqG false) (dCallP M_prices_text (dCons (dVar 5) dNil)) (dVar 4)))))))))))
theorem d__law_holds (T : Tx W mg A) (G_prices_text : FnOk P w W.K mg base CX0 3 A.f_prices_text A.fd_prices_text ["prices"] (spP W M_prices_text)) (G__law_is : FnOk P w W.K mg base CX0 2 A.f__law_is A.fd__law_is ["_law_told", "_law_due"] (spP W M__law_is)) (G_Prices_table : FnOk P w W.K mg base CX0 1 A.f_Prices_table A.fd_Prices_table ["self"] (spN W M_Prices_table)) (G_Prices_eq : FnOk P w W.K mg base CX0 1 A.f_Prices_eq A.fd_Prices_eq ["self", "other"] (spP W M_Prices_eq)) (G_read_prices : FnOk P w W.K mg base CX0 6 A.f_read_prices A.fd_read_prices ["text"] (spN W M_read_prices)) (G__law_prices_text : FnOk P w W.K mg base CX0 2 A.f__law_prices_text A.fd__law_prices_text ["_law_rows_here", "_law_width", "_law_table_here"] (spP W M__law_prices_text)) : BodyD P w W mg base 6 N__law_holds "_law_holds" s__law_holds A.f__law_holds t__law_holds := by
  intro cdv A2 outer s H E hr
  have nd := sc__law_holds.nd
  exact (ls_cons (ls_set (i := 4) nd rfl (by first | exact Or.inl rfl | exact Or.inr rfl) (le_callP G__law_prices_text (hr.mono (by decide)) (by rfl) T.g__law_prices_text T.F__law_prices_text.kp T.b__law_prices_text (la_cons (le_var 0) (la_cons (le_var 1) (la_cons (le_var 2) la_nil)))))
      (ls_cons (ls_if (lt_cmp (op_neA hr.units) real_eq1 (nomark _) (le_callP G_prices_text (hr.mono (by decide)) (by rfl) T.g_prices_text T.F_prices_text.kp T.b_prices_text (la_cons (le_var 3) la_nil)) (le_var 4)) (ls_one (ls_ret le_bl)) ls_nil)
      (ls_cons (ls_new (i := 5) nd rfl (by first | exact Or.inl rfl | exact Or.inr rfl) (ln_callN G_read_prices (hr.mono (by decide)) (by rfl) T.g_read_prices T.F_read_prices.kp T.b_read_prices (la_cons (le_var 4) la_nil)))
      (ls_cons (ls_if (PW.pt (lw_or (lt_not (lt_eqI (c := 0) G_Prices_eq (hr.mono (by decide)) T.eq_Prices T.eqf_Prices T.b_Prices_eq (nomark _) (le_var 5) (le_var 3))) (lw_or (lt_not (lt_eqI (c := 0) G_Prices_eq (hr.mono (by decide)) T.eq_Prices T.eqf_Prices T.b_Prices_eq (nomark _) (le_var 3) (le_var 5))) (lw_or1 (lt_not (lt_val (le_callP G__law_is (hr.mono (by decide)) (by rfl) T.g__law_is T.F__law_is.kp T.b__law_is (la_cons (le_tup (la_cons (le_fld rfl T.cl_Prices T.no_Prices_rows (le_var 5)) (la_cons (le_fld rfl T.cl_Prices T.no_Prices_width (le_var 5)) la_nil))) (la_cons (le_tup (la_cons (le_var 0) (la_cons (le_var 1) la_nil))) la_nil))))))))) (ls_one (ls_ret le_bl)) ls_nil)
      (ls_cons (ls_new (i := 6) nd rfl (by first | exact Or.inl rfl | exact Or.inr rfl) (le_prop (c := 0) T.cl_Prices T.pr_Prices_table G_Prices_table (hr.mono (by decide)) T.b_Prices_table (le_var 5)))
      (ls_cons (ls_if (PW.pt (lw_or (lt_not (lt_val (le_isi (T := .dict) rfl (by rfl) T.n_isinstance bt_isinstance (le_var 6) (pe_bltn (by rfl) T.n_dict bt_dict rfl)))) (lw_or1 (lt_cmp (op_neA hr.units) real_eq1 (nomark _) (le_callB (cr_sortedB rfl) real_sortedG2 (by rfl) T.n_sorted bt_sorted (la_cons (le_callTy (cr_list rfl) real_listG2 (by rfl) T.n_list bt_list (la_cons (le_var 6) la_nil)) la_nil)) (le_callB (cr_sortedB rfl) real_sortedG2 (by rfl) T.n_sorted bt_sorted (la_cons (le_callTy (cr_list rfl) real_listG2 (by rfl) T.n_list bt_list (la_cons (le_var 2) la_nil)) la_nil)))))) (ls_one (ls_ret le_bl)) ls_nil)
      (ls_cons (ls_if (lt_cmp op_gtD real_cmp (nomark _) (le_callB cr_len real_len (by rfl) T.n_len bt_len (la_cons (le_of_ln (ln_lc (own := [("_law_key", 7)]) rfl nd (li_any rfl (le_callTy (cr_list rfl) real_listG2 (by rfl) T.n_list bt_list (la_cons (le_var 2) la_nil))) (blkOk_by (N := N__law_holds) (sc := defScope s__law_holds) (own := [("_law_key", 7)]) (by decide +kernel)) (fun _ _ _ _ _ => (lgv_name (i := 7) (by decide) nd rfl (by first | exact Or.inl rfl | exact Or.inr rfl))) (fun _ _ _ _ _ => (lts_one (lt_not (lt_val (le_callP G__law_is (hr.mono (by decide)) (by rfl) T.g__law_is T.F__law_is.kp T.b__law_is (la_cons (le_ix (ix_any (hu_of hr)) (real_ix T.nw) (fun _ _ => rfl) (le_var 6) (le_var 7)) (la_cons (le_ix (ix_any (hu_of hr)) (real_ix T.nw) (fun _ _ => rfl) (le_var 2) (le_var 7)) la_nil))))))) (fun _ _ _ _ _ => (le_var 7)))) la_nil)) le_int) (ls_one (ls_ret le_bl)) ls_nil)
      (ls_cons (ls_expr (le_clear (i := 6) rfl (pv 6)))
      (ls_one (ls_ret (le_cmp (op_eqA hr.units) real_eq0 (nomark _) (le_callP G_prices_text (hr.mono (by decide)) (by rfl) T.g_prices_text T.F_prices_text.kp T.b_prices_text (la_cons (le_var 5) la_nil)) (le_var 4))))))))))))
def t__law_lowest : WPS :=
  (sSeq (sAsg (dCallL absG (dCons (dVar 0) dNil)) (dSet 2))
  (sSeq (sAsg (dVar 1) (dSet 3))
  (sSeq (sFor (dRange1 (dCons (dC (.int 4000)) dNil)) (dSet 4) (sSeq (sIf (dTest (dBin (eqG false) (dVar 2) (dC (.int 0)))) sBreak sNext)
  (sSeq (sAsg (dBin modD (dCallL intG (dCons (dVar 3) dNil)) (dVar 2)) (dSet 5))
  (sSeq (sAsg (dVar 2) (dSet 3))
  (sAsg (dVar 5) (dSet 2))))))
  (sRet (dTup (dCons (dBin fdivD (dVar 0) (dVar 3)) (dCons (dBin fdivD (dVar 1) (dVar 3)) dNil)))))))
theorem d__law_lowest (T : Tx W mg A) : BodyD P w W mg base 0 N__law_lowest "_law_lowest" s__law_lowest A.f__law_lowest t__law_lowest := by
  intro cdv A2 outer s H E hr
  have nd := sc__law_lowest.nd
  exact (ls_cons (ls_set (i := 2) nd rfl (by first | exact Or.inl rfl | exact Or.inr rfl) (le_callB call_abs real_absG (by rfl) T.n_abs bt_abs (la_cons (le_var 0) la_nil)))
      (ls_cons (ls_set (i := 3) nd rfl (by first | exact Or.inl rfl | exact Or.inr rfl) (le_var 1))
      (ls_cons (ls_for PassesOwn.never rfl (li_range1 (by rfl) T.n_range (la_cons le_int la_nil)) (lg_name (i := 4) nd rfl (by first | exact Or.inl rfl | exact Or.inr rfl)) (ls_cons (ls_if (lt_cmp (op_eqA hr.units) real_eq0 (nomark _) (le_var 2) le_int) (ls_one ls_break) ls_nil)
      (ls_cons (ls_set (i := 5) nd rfl (by first | exact Or.inl rfl | exact Or.inr rfl) (le_bin op_mod real_int (le_callTy cr_int real_intG (by rfl) T.n_int bt_int (la_cons (le_var 3) la_nil)) (le_var 2)))
      (ls_cons (ls_set (i := 3) nd rfl (by first | exact Or.inl rfl | exact Or.inr rfl) (le_var 2))
      (ls_one (ls_set (i := 2) nd rfl (by first | exact Or.inl rfl | exact Or.inr rfl) (le_var 5)))))))
      (ls_one (ls_ret (le_tup (la_cons (le_bin op_fdivW real_int (le_var 0) (le_var 3)) (la_cons (le_bin op_fdivW real_int (le_var 1) (le_var 3)) la_nil))))))))
def t__law_pick : WPS :=
  (sSeq (sIf (dTest (dBin gtG (dBin (ixD NW) (dVar 0) (dC (.int 2))) (dC (.int 1)))) (sSeq (sAsg (dBin modD (dCallL intG (dCons (dBin (ixD NW) (dVar 0) (dC (.int 2))) dNil)) (dVar 1)) (dSet 2))
  (sSeq (sStore NW 0 (dBin fdivD (dBin (ixD NW) (dVar 0) (dC (.int 2))) (dVar 1)) (dC (.int 2)))
  (sRet (dVar 2)))) sNext)
  (sSeq (sStore NW 0 (dBin addD (dBin (ixD NW) (dVar 0) (dC (.int 4))) (dC (.int 1))) (dC (.int 4)))
  (sSeq (sAsg (dC (.int 0)) (dSet 3))
  (sSeq (sIf (dTest (dBin ltG (dBin (ixD NW) (dVar 0) (dC (.int 1))) (dCallL lenG (dCons (dBin (ixD NW) (dVar 0) (dC (.int 0))) dNil)))) (sSeq (sAsg (dBin (ixD NW) (dBin (ixD NW) (dVar 0) (dC (.int 0))) (dBin (ixD NW) (dVar 0) (dC (.int 1)))) (dSet 3))
  (sStore NW 0 (dBin addD (dBin (ixD NW) (dVar 0) (dC (.int 1))) (dC (.int 1))) (dC (.int 1)))) sNext)
  (sSeq (sIf (dTest (dBin geG (dVar 3) (dBin powD (dC (.int 10)) (dC (.int 18))))) (sSeq (sStore NW 0 (dBin fdivD (dVar 3) (dVar 1)) (dC (.int 2)))
  (sRet (dBin modD (dCallL intG (dCons (dVar 3) dNil)) (dVar 1)))) sNext)
  (sSeq (sAsg (dBin modD (dCallL intG (dCons (dBin addD (dBin addD (dBin mulD (dBin (ixD NW) (dVar 0) (dC (.int 3))) (dC (.int 48271))) (dBin modD (dCallL intG (dCons (dVar 3) dNil)) (dC (.int 2147483629)))) (dBin mulD (dBin (ixD NW) (dVar 0) (dC (.int 4))) (dC (.int 69621)))) dNil)) (dC (.int 2147483647))) (dSet 4))
  (sSeq (sAsg (dBin modD (dCallL intG (dCons (dBin mulD (dVar 4) (dBin addD (dBin fdivD (dVar 4) (dC (.int 1009))) (dC (.int 40692)))) dNil)) (dC (.int 2147483399))) (dSet 4))
  (sSeq (sStore NW 0 (dVar 4) (dC (.int 3)))
  (sRet (dBin modD (dCallL intG (dCons (dBin fdivD (dVar 4) (dC (.int 16))) dNil)) (dVar 1)))))))))))
theorem d__law_pick (T : Tx W mg A) : BodyD P w W mg base 0 N__law_pick "_law_pick" s__law_pick A.f__law_pick t__law_pick := by
  intro cdv A2 outer s H E hr
  have nd := sc__law_pick.nd
  exact (ls_cons (ls_if (lt_cmp op_gtD real_cmp (nomark _) (le_ix (ix_any (hu_of hr)) (real_ix T.nw) (fun _ _ => rfl) (le_var 0) le_int) le_int) (ls_cons (ls_set (i := 2) nd rfl (by first | exact Or.inl rfl | exact Or.inr rfl) (le_bin op_mod real_int (le_callTy cr_int real_intG (by rfl) T.n_int bt_int (la_cons (le_ix (ix_any (hu_of hr)) (real_ix T.nw) (fun _ _ => rfl) (le_var 0) le_int) la_nil)) (le_var 1)))
      (ls_cons (ls_store (i := 0) T.nw (hu_of hr) (pv 0) (le_bin op_fdivW real_int (le_ix (ix_any (hu_of hr)) (real_ix T.nw) (fun _ _ => rfl) (le_var 0) le_int) (le_var 1)) le_int (by intro _; rfl))
      (ls_one (ls_ret (le_var 2))))) ls_nil)
      (ls_cons (ls_store (i := 0) T.nw (hu_of hr) (pv 0) (le_bin op_addD real_add (le_ix (ix_any (hu_of hr)) (real_ix T.nw) (fun _ _ => rfl) (le_var 0) le_int) le_int) le_int (by intro _; rfl))
      (ls_cons (ls_set (i := 3) nd rfl (by first | exact Or.inl rfl | exact Or.inr rfl) le_int)
      (ls_cons (ls_if (lt_cmp op_ltD real_cmp (nomark _) (le_ix (ix_any (hu_of hr)) (real_ix T.nw) (fun _ _ => rfl) (le_var 0) le_int) (le_callB cr_len real_len (by rfl) T.n_len bt_len (la_cons (le_ix (ix_any (hu_of hr)) (real_ix T.nw) (fun _ _ => rfl) (le_var 0) le_int) la_nil))) (ls_cons (ls_set (i := 3) nd rfl (by first | exact Or.inl rfl | exact Or.inr rfl) (le_ix (ix_any (hu_of hr)) (real_ix T.nw) (fun _ _ => rfl) (le_ix (ix_any (hu_of hr)) (real_ix T.nw) (fun _ _ => rfl) (le_var 0) le_int) (le_ix (ix_any (hu_of hr)) (real_ix T.nw) (fun _ _ => rfl) (le_var 0) le_int)))
      (ls_one (ls_store (i := 0) T.nw (hu_of hr) (pv 0) (le_bin op_addD real_add (le_ix (ix_any (hu_of hr)) (real_ix T.nw) (fun _ _ => rfl) (le_var 0) le_int) le_int) le_int (by intro _; rfl)))) ls_nil)
      (ls_cons (ls_if (lt_cmp op_geD real_cmp (nomark _) (le_var 3) (le_bin op_pow real_int le_int le_int)) (ls_cons (ls_store (i := 0) T.nw (hu_of hr) (pv 0) (le_bin op_fdivW real_int (le_var 3) (le_var 1)) le_int (by intro _; rfl))
      (ls_one (ls_ret (le_bin op_mod real_int (le_callTy cr_int real_intG (by rfl) T.n_int bt_int (la_cons (le_var 3) la_nil)) (le_var 1))))) ls_nil)
      (ls_cons (ls_set (i := 4) nd rfl (by first | exact Or.inl rfl | exact Or.inr rfl) (le_bin op_mod real_int (le_callTy cr_int real_intG (by rfl) T.n_int bt_int (la_cons (le_bin op_addD real_add (le_bin op_addD real_add (le_bin op_mulD real_int (le_ix (ix_any (hu_of hr)) (real_ix T.nw) (fun _ _ => rfl) (le_var 0) le_int) le_int) (le_bin op_mod real_int (le_callTy cr_int real_intG (by rfl) T.n_int bt_int (la_cons (le_var 3) la_nil)) le_int)) (le_bin op_mulD real_int (le_ix (ix_any (hu_of hr)) (real_ix T.nw) (fun _ _ => rfl) (le_var 0) le_int) le_int)) la_nil)) le_int))
      (ls_cons (ls_set (i := 4) nd rfl (by first | exact Or.inl rfl | exact Or.inr rfl) (le_bin op_mod real_int (le_callTy cr_int real_intG (by rfl) T.n_int bt_int (la_cons (le_bin op_mulD real_int (le_var 4) (le_bin op_addD real_add (le_bin op_fdivW real_int (le_var 4) le_int) le_int)) la_nil)) le_int))
      (ls_cons (ls_store (i := 0) T.nw (hu_of hr) (pv 0) (le_var 4) le_int (by intro _; rfl))
      (ls_one (ls_ret (le_bin op_mod real_int (le_callTy cr_int real_intG (by rfl) T.n_int bt_int (la_cons (le_bin op_fdivW real_int (le_var 4) le_int) la_nil)) (le_var 1))))))))))))
def t__law_fraction : WPS :=
  (sSeq (sAsg (dCallT M__law_pick (dCons (dVar 0) (dCons (dBin powD (dC (.int 10)) (dC (.int 6))) dNil))) (dSet 1))
  (sSeq (sAsg (dCallT M__law_pick (dCons (dVar 0) (dCons (dC (.int 5)) dNil))) (dSet 2))
  (sSeq (sAsg (dBin (ixD NW) (dFz (dLst (dCons (dBin modD (dCallL intG (dCons (dVar 1) dNil)) (dC (.int 10))) (dCons (dBin subD (dBin modD (dCallL intG (dCons (dVar 1) dNil)) (dC (.int 199))) (dC (.int 99))) (dCons (dBin modD (dCallL intG (dCons (dVar 1) dNil)) (dC (.int 10))) (dCons (dC (.int 0)) (dCons (dBin subD (dBin powD (dC (.int 10)) (dC (.int 50))) (dVar 1)) dNil))))))) (dVar 2)) (dSet 3))
  (sRet (dCallP M__law_lowest (dCons (dVar 3) (dCons (dBin (ixD NW) (dFz (dLst (dCons (dC (.int 1)) (dCons (dC (.int 1)) (dCons (dBin addD (dC (.int 1)) (dBin modD (dCallL intG (dCons (dBin fdivD (dVar 1) (dC (.int 10))) dNil)) (dC (.int 7)))) (dCons (dC (.int 1)) (dCons (dBin addD (dC (.int 1)) (dBin modD (dCallL intG (dCons (dVar 1) dNil)) (dC (.int 1000)))) dNil))))))) (dVar 2)) dNil)))))))
theorem d__law_fraction (T : Tx W mg A) (G__law_lowest : FnOk P w W.K mg base CX0 1 A.f__law_lowest A.fd__law_lowest ["_law_top", "_law_bottom"] (spP W M__law_lowest)) (G__law_pick : FnOk P w W.K mg base CX0 1 A.f__law_pick A.fd__law_pick ["_law_tape_here", "_law_size"] (spT W M__law_pick)) : BodyD P w W mg base 1 N__law_fraction "_law_fraction" s__law_fraction A.f__law_fraction t__law_fraction := by
  intro cdv A2 outer s H E hr
  have nd := sc__law_fraction.nd
  exact (ls_cons (ls_set (i := 1) nd rfl (by first | exact Or.inl rfl | exact Or.inr rfl) (le_callT G__law_pick (hr.mono (by decide)) (by rfl) T.g__law_pick T.F__law_pick.kp T.b__law_pick (la_cons (le_var 0) (la_cons (le_bin op_pow real_int le_int le_int) la_nil))))
      (ls_cons (ls_set (i := 2) nd rfl (by first | exact Or.inl rfl | exact Or.inr rfl) (le_callT G__law_pick (hr.mono (by decide)) (by rfl) T.g__law_pick T.F__law_pick.kp T.b__law_pick (la_cons (le_var 0) (la_cons le_int la_nil))))
      (ls_cons (ls_set (i := 3) nd rfl (by first | exact Or.inl rfl | exact Or.inr rfl) (le_ix (ix_any (hu_of hr)) (real_ix T.nw) (fun _ _ => rfl) (le_of_ln (ln_lst (la_cons (le_bin op_mod real_int (le_callTy cr_int real_intG (by rfl) T.n_int bt_int (la_cons (le_var 1) la_nil)) le_int) (la_cons (le_bin op_subD real_int (le_bin op_mod real_int (le_callTy cr_int real_intG (by rfl) T.n_int bt_int (la_cons (le_var 1) la_nil)) le_int) le_int) (la_cons (le_bin op_mod real_int (le_callTy cr_int real_intG (by rfl) T.n_int bt_int (la_cons (le_var 1) la_nil)) le_int) (la_cons le_int (la_cons (le_bin op_subD real_int (le_bin op_pow real_int le_int le_int) (le_var 1)) la_nil))))))) (le_var 2)))
      (ls_one (ls_ret (le_callP G__law_lowest (hr.mono (by decide)) (by rfl) T.g__law_lowest T.F__law_lowest.kp T.b__law_lowest (la_cons (le_var 3) (la_cons (le_ix (ix_any (hu_of hr)) (real_ix T.nw) (fun _ _ => rfl) (le_of_ln (ln_lst (la_cons le_int (la_cons le_int (la_cons (le_bin op_addD real_add le_int (le_bin op_mod real_int (le_callTy cr_int real_intG (by rfl) T.n_int bt_int (la_cons (le_bin op_fdivW real_int (le_var 1) le_int) la_nil)) le_int)) (la_cons le_int (la_cons (le_bin op_addD real_add le_int (le_bin op_mod real_int (le_callTy cr_int real_intG (by rfl) T.n_int bt_int (la_cons (le_var 1) la_nil)) le_int)) la_nil))))))) (le_var 2)) la_nil))))))))
def t__law_all_stretches : WPS :=
  (sSeq (sNew (dLst (dCons (dC (.str "")) dNil)) 2)
  (sSeq (sNew (dLst dNil) 3)
  (sSeq (sFor (dRange2 (dCons (dC (.int 1)) (dCons (dBin addD (dVar 1) (dC (.int 1))) dNil))) (dSet 4) (sSeq (sNew (dLst dNil) 5)
  (sSeq (sFor (dIter (dVar 2)) (dSet 6) (sAsg (dBin addD (dVar 5) (dFz (dLc (dIter (dVar 0)) [7] (dSet 7) dYes (dBin addD (dVar 6) (dVar 7))))) (dSet 5)))
  (sSeq (sAsg (dVar 5) (dSet 2))
  (sAsg (dBin addD (dVar 3) (dFz (dLc (dIter (dVar 2)) [6] (dSet 6) dYes (dBin (ixD NW) (dFz (dLst (dCons (dBin addD (dC (.str "^")) (dVar 6)) (dCons (dVar 6) dNil)))) (dCallL intG (dCons (dBin (eqG false) (dVar 4) (dVar 1)) dNil)))))) (dSet 3))))))
  (sRet (dCallL sortedG2 (dCons (dVar 3) dNil))))))
theorem d__law_all_stretches (T : Tx W mg A) : BodyD P w W mg base 0 N__law_all_stretches "_law_all_stretches" s__law_all_stretches A.f__law_all_stretches t__law_all_stretches := by
  intro cdv A2 outer s H E hr
  have nd := sc__law_all_stretches.nd
  exact (ls_cons (ls_new (i := 2) nd rfl (by first | exact Or.inl rfl | exact Or.inr rfl) (ln_lst (la_cons le_str la_nil)))
      (ls_cons (ls_new (i := 3) nd rfl (by first | exact Or.inl rfl | exact Or.inr rfl) (ln_lst la_nil))
      (ls_cons (ls_for PassesOwn.never rfl (li_range2 (by rfl) T.n_range (la_cons le_int (la_cons (le_bin op_addD real_add (le_var 1) le_int) la_nil))) (lg_name (i := 4) nd rfl (by first | exact Or.inl rfl | exact Or.inr rfl)) (ls_cons (ls_new (i := 5) nd rfl (by first | exact Or.inl rfl | exact Or.inr rfl) (ln_lst la_nil))
      (ls_cons (ls_for PassesOwn.never rfl (li_any rfl (le_var 2)) (lg_name (i := 6) nd rfl (by first | exact Or.inl rfl | exact Or.inr rfl)) (ls_one (ls_set (i := 5) nd rfl (by first | exact Or.inl rfl | exact Or.inr rfl) (le_bin op_addD real_add (le_var 5) (le_of_ln (ln_lc (own := [("_law_row", 7)]) rfl nd (li_any rfl (le_var 0)) (blkOk_by (N := N__law_all_stretches) (sc := defScope s__law_all_stretches) (own := [("_law_row", 7)]) (by decide +kernel)) (fun _ _ _ _ _ => (lgv_name (i := 7) (by decide) nd rfl (by first | exact Or.inl rfl | exact Or.inr rfl))) (fun _ _ _ _ _ => lts_nil) (fun _ _ _ _ _ => (le_bin op_addD real_add (le_var 6) (le_var 7)))))))))
      (ls_cons (ls_set (i := 2) nd rfl (by first | exact Or.inl rfl | exact Or.inr rfl) (le_var 5))
      (ls_one (ls_set (i := 3) nd rfl (by first | exact Or.inl rfl | exact Or.inr rfl) (le_bin op_addD real_add (le_var 3) (le_of_ln (ln_lc (own := [("_law_word", 6)]) rfl nd (li_any rfl (le_var 2)) (blkOk_by (N := N__law_all_stretches) (sc := defScope s__law_all_stretches) (own := [("_law_word", 6)]) (by decide +kernel)) (fun _ _ _ _ _ => (lgv_name (i := 6) (by decide) nd rfl (by first | exact Or.inl rfl | exact Or.inr rfl))) (fun _ _ _ _ _ => lts_nil) (fun _ _ _ _ _ => (le_ix (ix_any (hu_of hr)) (real_ix T.nw) (fun _ _ => rfl) (le_of_ln (ln_lst (la_cons (le_bin op_addD real_add le_str (le_var 6)) (la_cons (le_var 6) la_nil)))) (le_callTy cr_int real_intG (by rfl) T.n_int bt_int (la_cons (le_cmp (op_eqA hr.units) real_eq0 (nomark _) (le_var 4) (le_var 1)) la_nil)))))))))))))
      (ls_one (ls_ret (le_callB (cr_sortedB rfl) real_sortedG2 (by rfl) T.n_sorted bt_sorted (la_cons (le_var 3) la_nil)))))))
def t__law_table : WPS :=
  (sSeq (sNew dDK 3)
  (sSeq (sFor (dIter (dCallP M__law_all_stretches (dCons (dVar 1) (dCons (dVar 2) dNil)))) (dSet 4) (sStore NW 3 (dCallT M__law_fraction (dCons (dVar 0) dNil)) (dVar 4)))
  (sRet (dVar 3))))
theorem d__law_table (T : Tx W mg A) (G__law_fraction : FnOk P w W.K mg base CX0 2 A.f__law_fraction A.fd__law_fraction ["_law_tape_here"] (spT W M__law_fraction)) (G__law_all_stretches : FnOk P w W.K mg base CX0 1 A.f__law_all_stretches A.fd__law_all_stretches ["_law_rows_here", "_law_width"] (spP W M__law_all_stretches)) : BodyD P w W mg base 2 N__law_table "_law_table" s__law_table A.f__law_table t__law_table := by
  intro cdv A2 outer s H E hr
  have nd := sc__law_table.nd
  exact (ls_cons (ls_new (i := 3) nd rfl (by first | exact Or.inl rfl | exact Or.inr rfl) ln_dK)
      (ls_cons (ls_for PassesOwn.never rfl (li_any rfl (le_callP G__law_all_stretches (hr.mono (by decide)) (by rfl) T.g__law_all_stretches T.F__law_all_stretches.kp T.b__law_all_stretches (la_cons (le_var 1) (la_cons (le_var 2) la_nil)))) (lg_name (i := 4) nd rfl (by first | exact Or.inl rfl | exact Or.inr rfl)) (ls_one (ls_store (i := 3) T.nw (hu_of hr) (pv 3) (le_callT G__law_fraction (hr.mono (by decide)) (by rfl) T.g__law_fraction T.F__law_fraction.kp T.b__law_fraction (la_cons (le_var 0) la_nil)) (le_var 4) (by intro _; rfl))))
      (ls_one (ls_ret (le_var 3)))))
def t__law_rows : WPS :=
  (sSeq (sAsg (dCallT M__law_pick (dCons (dVar 0) (dCons (dC (.int 26)) dNil))) (dSet 2))
  (sSeq (sAsg (dBin (ixD NW) (dFz (dLst (dCons (dC (.int 1)) (dCons (dC (.int 3)) (dCons (dC (.int 5)) (dCons (dC (.int 7)) (dCons (dC (.int 9)) (dCons (dC (.int 11)) dNil)))))))) (dCallT M__law_pick (dCons (dVar 0) (dCons (dC (.int 6)) dNil)))) (dSet 3))
  (sSeq (sAsg (dBin addD (dC (.int 1)) (dCallT M__law_pick (dCons (dVar 0) (dCons (dVar 1) dNil)))) (dSet 4))
  (sRet (dMeth "str" joinG (dC (.str "")) (dCons (dCallL sortedG2 (dCons (dFz (dLc (dRange1 (dCons (dVar 4) dNil)) [5] (dSet 5) dYes (dBin (ixD NW) (dC (.str "abcdefghijklmnopqrstuvwxyz")) (dBin modD (dCallL intG (dCons (dBin addD (dVar 2) (dBin mulD (dVar 3) (dVar 5))) dNil)) (dC (.int 26)))))) dNil)) dNil))))))
theorem d__law_rows (T : Tx W mg A) (G__law_pick : FnOk P w W.K mg base CX0 1 A.f__law_pick A.fd__law_pick ["_law_tape_here", "_law_size"] (spT W M__law_pick)) : BodyD P w W mg base 1 N__law_rows "_law_rows" s__law_rows A.f__law_rows t__law_rows := by
  intro cdv A2 outer s H E hr
  have nd := sc__law_rows.nd
  exact (ls_cons (ls_set (i := 2) nd rfl (by first | exact Or.inl rfl | exact Or.inr rfl) (le_callT G__law_pick (hr.mono (by decide)) (by rfl) T.g__law_pick T.F__law_pick.kp T.b__law_pick (la_cons (le_var 0) (la_cons le_int la_nil))))
      (ls_cons (ls_set (i := 3) nd rfl (by first | exact Or.inl rfl | exact Or.inr rfl) (le_ix (ix_any (hu_of hr)) (real_ix T.nw) (fun _ _ => rfl) (le_of_ln (ln_lst (la_cons le_int (la_cons le_int (la_cons le_int (la_cons le_int (la_cons le_int (la_cons le_int la_nil)))))))) (le_callT G__law_pick (hr.mono (by decide)) (by rfl) T.g__law_pick T.F__law_pick.kp T.b__law_pick (la_cons (le_var 0) (la_cons le_int la_nil)))))
      (ls_cons (ls_set (i := 4) nd rfl (by first | exact Or.inl rfl | exact Or.inr rfl) (le_bin op_addD real_add le_int (le_callT G__law_pick (hr.mono (by decide)) (by rfl) T.g__law_pick T.F__law_pick.kp T.b__law_pick (la_cons (le_var 0) (la_cons (le_var 1) la_nil)))))
      (ls_one (ls_ret (le_bm rfl PySem.F.plainAttrs_str PySem.F.slot_str_join PySem.F.type_str_join mt_join real_joinG le_str (la_cons (le_callB (cr_sortedB rfl) real_sortedG2 (by rfl) T.n_sorted bt_sorted (la_cons (le_of_ln (ln_lc (own := [("_law_k", 5)]) rfl nd (li_range1 (by rfl) T.n_range (la_cons (le_var 4) la_nil)) (blkOk_by (N := N__law_rows) (sc := defScope s__law_rows) (own := [("_law_k", 5)]) (by decide +kernel)) (fun _ _ _ _ _ => (lgv_name (i := 5) (by decide) nd rfl (by first | exact Or.inl rfl | exact Or.inr rfl))) (fun _ _ _ _ _ => lts_nil) (fun _ _ _ _ _ => (le_ix (ix_any (hu_of hr)) (real_ix T.nw) (fun _ _ => rfl) le_str (le_bin op_mod real_int (le_callTy cr_int real_intG (by rfl) T.n_int bt_int (la_cons (le_bin op_addD real_add (le_var 2) (le_bin op_mulD real_int (le_var 3) (le_var 5))) la_nil)) le_int))))) la_nil)) la_nil)))))))
def t__law_tape : WPS :=
  (sRetNew (dLst (dCons (dCallL listG2 (dCons (dVar 0) dNil)) (dCons (dC (.int 0)) (dCons (dC (.int 0)) (dCons (dC (.int 1)) (dCons (dC (.int 0)) dNil)))))))
theorem d__law_tape (T : Tx W mg A) : BodyD P w W mg base 0 N__law_tape "_law_tape" s__law_tape A.f__law_tape t__law_tape := by
  intro cdv A2 outer s H E hr
  have nd := sc__law_tape.nd
  exact (ls_one (ls_retNew (ln_lst (la_cons (le_callTy (cr_list rfl) real_listG2 (by rfl) T.n_list bt_list (la_cons (le_var 0) la_nil)) (la_cons le_int (la_cons le_int (la_cons le_int (la_cons le_int la_nil))))))))
def t_law : WPS :=
  (sSeq (sNew (dCallN M__law_tape (dCons (dVar 0) dNil)) 1)
  (sSeq (sAsg (dBin addD (dC (.int 1)) (dCallT M__law_pick (dCons (dVar 1) (dCons (dC (.int 3)) dNil)))) (dSet 2))
  (sSeq (sAsg (dCallT M__law_rows (dCons (dVar 1) (dCons (dBin (ixD NW) (dFz (dLst (dCons (dC (.int 4)) (dCons (dC (.int 4)) (dCons (dC (.int 3)) dNil))))) (dBin subD (dVar 2) (dC (.int 1)))) dNil))) (dSet 3))
  (sSeq (sNew (dCallTN M__law_table (dCons (dVar 1) (dCons (dVar 3) (dCons (dVar 2) dNil)))) 4)
  (sSeq (sNew dDK 5)
  (sSeq (sFor (dIter (dCallL sortedG2 (dCons (dCallL listG2 (dCons (dVar 4) dNil)) dNil))) (dSet 6) (sStore NW 5 (dBin (ixD NW) (dVar 4) (dVar 6)) (dVar 6)))
  (sSeq (sAsg (dBin (ixD NW) (dCallL sortedG2 (dCons (dCallL listG2 (dCons (dVar 4) dNil)) dNil)) (dCallT M__law_pick (dCons (dVar 1) (dCons (dCallL lenG (dCons (dVar 4) dNil)) dNil)))) (dSet 7))
  (sSeq (sStore NW 5 (dCallT M__law_fraction (dCons (dVar 1) dNil)) (dVar 7))
  (sSeq (sNew (dMake 0 M_Prices_init (dCons (dVar 3) (dCons (dVar 2) (dCons (dVar 4) dNil)))) 8)
  (sSeq (sNew (dMake 0 M_Prices_init (dCons (dVar 3) (dCons (dVar 2) (dCons (dVar 5) dNil)))) 9)
  (sSeq (sIf (dOr (dNot (dTest (dCallP M__law_holds (dCons (dVar 3) (dCons (dVar 2) (dCons (dVar 4) (dCons (dVar 8) dNil))))))) (dNot (dTest (dCallP M__law_holds (dCons (dVar 3) (dCons (dVar 2) (dCons (dVar 5) (dCons (dVar 9) dNil)))))))) (sRet (dC (.bl false))) sNext)
  (sSeq (sIf (dOr (dTest (dBin (eqG true) (dBin (eqG false) (dCallP M_prices_text (dCons (dVar 8) dNil)) (dCallP M_prices_text (dCons (dVar 9) dNil))) (dBin eqAllG (dVar 4) (dVar 5)))) (dTest (dBin (eqG true) (dEqI 0 M_Prices_eq (dVar 8) (dVar 9)) (dBin eqAllG (dVar 4) (dVar 5))))) (sRet (dC (.bl false))) sNext)
  (sRet (dBin (eqG false) (dCallP M_prices_text (dCons (dVar 8) dNil)) (dCallP M__law_prices_text (dCons (dVar 3) (dCons (dVar 2) (dCons (dVar 4) dNil))))))))))))))))))
theorem d_law (T : Tx W mg A) (G_prices_text : FnOk P w W.K mg base CX0 3 A.f_prices_text A.fd_prices_text ["prices"] (spP W M_prices_text)) (G__law_prices_text : FnOk P w W.K mg base CX0 2 A.f__law_prices_text A.fd__law_prices_text ["_law_rows_here", "_law_width", "_law_table_here"] (spP W M__law_prices_text)) (G_Prices_eq : FnOk P w W.K mg base CX0 1 A.f_Prices_eq A.fd_Prices_eq ["self", "other"] (spP W M_Prices_eq)) (G__law_holds : FnOk P w W.K mg base CX0 7 A.f__law_holds A.fd__law_holds ["_law_rows_here", "_law_width", "_law_table_here", "_law_prices"] (spP W M__law_holds)) (G_Prices_init : FnOk P w W.K mg base CX0 4 A.f_Prices_init A.fd_Prices_init ["self", "rows", "width", "table"] (spT W M_Prices_init)) (G__law_fraction : FnOk P w W.K mg base CX0 2 A.f__law_fraction A.fd__law_fraction ["_law_tape_here"] (spT W M__law_fraction)) (G__law_pick : FnOk P w W.K mg base CX0 1 A.f__law_pick A.fd__law_pick ["_law_tape_here", "_law_size"] (spT W M__law_pick)) (G__law_table : FnOk P w W.K mg base CX0 3 A.f__law_table A.fd__law_table ["_law_tape_here", "_law_rows_here", "_law_width"] (spTN W M__law_table)) (G__law_rows : FnOk P w W.K mg base CX0 2 A.f__law_rows A.fd__law_rows ["_law_tape_here", "_law_most"] (spT W M__law_rows)) (G__law_tape : FnOk P w W.K mg base CX0 1 A.f__law_tape A.fd__law_tape ["_law_script"] (spN W M__law_tape)) : BodyD P w W mg base 7 N_law "law" s_law A.f_law t_law := by
  intro cdv A2 outer s H E hr
  have nd := sc_law.nd
  exact (ls_cons (ls_new (i := 1) nd rfl (by first | exact Or.inl rfl | exact Or.inr rfl) (ln_callN G__law_tape (hr.mono (by decide)) (by rfl) T.g__law_tape T.F__law_tape.kp T.b__law_tape (la_cons (le_var 0) la_nil)))
      (ls_cons (ls_set (i := 2) nd rfl (by first | exact Or.inl rfl | exact Or.inr rfl) (le_bin op_addD real_add le_int (le_callT G__law_pick (hr.mono (by decide)) (by rfl) T.g__law_pick T.F__law_pick.kp T.b__law_pick (la_cons (le_var 1) (la_cons le_int la_nil)))))
      (ls_cons (ls_set (i := 3) nd rfl (by first | exact Or.inl rfl | exact Or.inr rfl) (le_callT G__law_rows (hr.mono (by decide)) (by rfl) T.g__law_rows T.F__law_rows.kp T.b__law_rows (la_cons (le_var 1) (la_cons (le_ix (ix_any (hu_of hr)) (real_ix T.nw) (fun _ _ => rfl) (le_of_ln (ln_lst (la_cons le_int (la_cons le_int (la_cons le_int la_nil))))) (le_bin op_subD real_int (le_var 2) le_int)) la_nil))))
      (ls_cons (ls_new (i := 4) nd rfl (by first | exact Or.inl rfl | exact Or.inr rfl) (ln_callTN G__law_table (hr.mono (by decide)) (by rfl) T.g__law_table T.F__law_table.kp T.b__law_table (la_cons (le_var 1) (la_cons (le_var 3) (la_cons (le_var 2) la_nil)))))
      (ls_cons (ls_new (i := 5) nd rfl (by first | exact Or.inl rfl | exact Or.inr rfl) ln_dK)
      (ls_cons (ls_for PassesOwn.never rfl (li_any rfl (le_callB (cr_sortedB rfl) real_sortedG2 (by rfl) T.n_sorted bt_sorted (la_cons (le_callTy (cr_list rfl) real_listG2 (by rfl) T.n_list bt_list (la_cons (le_var 4) la_nil)) la_nil))) (lg_name (i := 6) nd rfl (by first | exact Or.inl rfl | exact Or.inr rfl)) (ls_one (ls_store (i := 5) T.nw (hu_of hr) (pv 5) (le_ix (ix_any (hu_of hr)) (real_ix T.nw) (fun _ _ => rfl) (le_var 4) (le_var 6)) (le_var 6) (by intro _; rfl))))
      (ls_cons (ls_set (i := 7) nd rfl (by first | exact Or.inl rfl | exact Or.inr rfl) (le_ix (ix_any (hu_of hr)) (real_ix T.nw) (fun _ _ => rfl) (le_callB (cr_sortedB rfl) real_sortedG2 (by rfl) T.n_sorted bt_sorted (la_cons (le_callTy (cr_list rfl) real_listG2 (by rfl) T.n_list bt_list (la_cons (le_var 4) la_nil)) la_nil)) (le_callT G__law_pick (hr.mono (by decide)) (by rfl) T.g__law_pick T.F__law_pick.kp T.b__law_pick (la_cons (le_var 1) (la_cons (le_callB cr_len real_len (by rfl) T.n_len bt_len (la_cons (le_var 4) la_nil)) la_nil)))))
      (ls_cons (ls_store (i := 5) T.nw (hu_of hr) (pv 5) (le_callT G__law_fraction (hr.mono (by decide)) (by rfl) T.g__law_fraction T.F__law_fraction.kp T.b__law_fraction (la_cons (le_var 1) la_nil)) (le_var 7) (by intro _; rfl))
      (ls_cons (ls_new (i := 8) nd rfl (by first | exact Or.inl rfl | exact Or.inr rfl) (ln_make T.mk_Prices G_Prices_init (hr.mono (by decide)) (by rfl) T.g_Prices T.b_Prices_init (la_cons (le_var 3) (la_cons (le_var 2) (la_cons (le_var 4) la_nil)))))
      (ls_cons (ls_new (i := 9) nd rfl (by first | exact Or.inl rfl | exact Or.inr rfl) (ln_make T.mk_Prices G_Prices_init (hr.mono (by decide)) (by rfl) T.g_Prices T.b_Prices_init (la_cons (le_var 3) (la_cons (le_var 2) (la_cons (le_var 5) la_nil)))))
      (ls_cons (ls_if (PW.pt (lw_or (lt_not (lt_val (le_callP G__law_holds (hr.mono (by decide)) (by rfl) T.g__law_holds T.F__law_holds.kp T.b__law_holds (la_cons (le_var 3) (la_cons (le_var 2) (la_cons (le_var 4) (la_cons (le_var 8) la_nil))))))) (lw_or1 (lt_not (lt_val (le_callP G__law_holds (hr.mono (by decide)) (by rfl) T.g__law_holds T.F__law_holds.kp T.b__law_holds (la_cons (le_var 3) (la_cons (le_var 2) (la_cons (le_var 5) (la_cons (le_var 9) la_nil)))))))))) (ls_one (ls_ret le_bl)) ls_nil)
      (ls_cons (ls_if (PW.pt (lw_or (lt_cmp (op_neA hr.units) real_eq1 (nomark _) (le_cmp (op_eqA hr.units) real_eq0 (nomark _) (le_callP G_prices_text (hr.mono (by decide)) (by rfl) T.g_prices_text T.F_prices_text.kp T.b_prices_text (la_cons (le_var 8) la_nil)) (le_callP G_prices_text (hr.mono (by decide)) (by rfl) T.g_prices_text T.F_prices_text.kp T.b_prices_text (la_cons (le_var 9) la_nil))) (le_cmp (op_eqAll (rm65 hr)) real_eqAll (nomark _) (le_var 4) (le_var 5))) (lw_or1 (lt_cmp (op_neA hr.units) real_eq1 (nomark _) (le_eqI (c := 0) G_Prices_eq (hr.mono (by decide)) T.eq_Prices T.eqf_Prices T.b_Prices_eq (nomark _) (le_var 8) (le_var 9)) (le_cmp (op_eqAll (rm65 hr)) real_eqAll (nomark _) (le_var 4) (le_var 5)))))) (ls_one (ls_ret le_bl)) ls_nil)
      (ls_one (ls_ret (le_cmp (op_eqA hr.units) real_eq0 (nomark _) (le_callP G_prices_text (hr.mono (by decide)) (by rfl) T.g_prices_text T.F_prices_text.kp T.b_prices_text (la_cons (le_var 8) la_nil)) (le_callP G__law_prices_text (hr.mono (by decide)) (by rfl) T.g__law_prices_text T.F__law_prices_text.kp T.b__law_prices_text (la_cons (le_var 3) (la_cons (le_var 2) (la_cons (le_var 4) la_nil)))))))))))))))))))
end
end K86

set_option Elab.async false
set_option linter.all false
set_option maxRecDepth 100000
set_option maxHeartbeats 2000000
/-! plain facts of stretches -/
namespace K86
open PySem L2 DL TL
theorem codesN_mem {L : List Nat} : ∀ {n : Nat} {c : List Nat}, c ∈ codesN L n → c.length = n ∧ ∀ x ∈ c, x ∈ L
  | 0, c, h => by
    have : c = [] := by simpa [codesN] using h
    subst this
    exact ⟨rfl, fun x hx => nomatch hx⟩
  | n + 1, c, h => by
    obtain ⟨d, hd, h2⟩ := List.mem_flatMap.mp h
    obtain ⟨x, hx, e⟩ := List.mem_map.mp h2
    subst e
    obtain ⟨h3, h4⟩ := codesN_mem hd
    refine ⟨by rw [List.length_append, h3]; rfl, fun y hy => ?_⟩
    rcases List.mem_append.mp hy with z | z
    · exact h4 y z
    · rw [List.mem_singleton.mp z]; exact hx
theorem codesN_len (L : List Nat) : ∀ n : Nat, (codesN L n).length = L.length ^ n
  | 0 => rfl
  | n + 1 => by
    have e : codesN L (n + 1) = (codesN L n).flatMap fun c => L.map fun x => c ++ [x] := rfl
    rw [e, List.length_flatMap]
    simp only [List.length_map]
    rw [List.map_const', List.sum_replicate_nat, codesN_len L n, Nat.pow_succ]
theorem nodup_flatMap {α β : Type} {l : List α} {f : α → List β} (h1 : l.Nodup) (h2 : ∀ a ∈ l, (f a).Nodup) (h3 : ∀ a ∈ l, ∀ b ∈ l, ∀ x, x ∈ f a → x ∈ f b → a = b) : (l.flatMap f).Nodup := by
  induction l with
  | nil => exact List.nodup_nil
  | cons a l ih =>
    rw [List.flatMap_cons]
    rw [List.nodup_cons] at h1
    refine List.nodup_append.mpr ⟨h2 a List.mem_cons_self, ih h1.2 (fun b hb => h2 b (List.mem_cons_of_mem _ hb)) (fun b hb c hc => h3 b (List.mem_cons_of_mem _ hb) c (List.mem_cons_of_mem _ hc)), fun x hx y hy e => ?_⟩
    subst e
    obtain ⟨b, hb, hxb⟩ := List.mem_flatMap.mp hy
    have := h3 a List.mem_cons_self b (List.mem_cons_of_mem _ hb) x hx hxb
    subst this
    exact h1.1 hb
theorem codesN_nodup {L : List Nat} (h : L.Nodup) : ∀ n : Nat, (codesN L n).Nodup
  | 0 => by simp [codesN]
  | n + 1 => by
    refine nodup_flatMap (codesN_nodup h n) (fun c _ => ?_) fun a _ b _ x hx hy => ?_
    · exact (List.pairwise_map.mpr (h.imp fun q e => q (by simpa using e)))
    · obtain ⟨p, _, e1⟩ := List.mem_map.mp hx
      obtain ⟨q, _, e2⟩ := List.mem_map.mp hy
      have := e1.trans e2.symm
      exact (List.append_inj' this rfl).1
theorem tl_mk' (l : List Nat) : tl (mk l) = l := rfl
theorem mk_inj {l m : List Nat} (h : mk l = mk m) : l = m := by have := congrArg tl h; exact this
theorem codesS_nodup {r : Str} (h : (tl r).Nodup) (n : Nat) : (codesS r n).Nodup := List.pairwise_map.mpr ((codesN_nodup h n).imp fun q e => q (mk_inj e))
theorem tl_hat (x : Str) : tl (hat x) = 94 :: tl x := by
  unfold hat
  rw [tl_append]
  have : tl (Str.ofString "^") = [94] := by decide +kernel
  show tl (Str.ofString "^") ++ tl x = _
  rw [this]; rfl
theorem hat_inj {x y : Str} (h : hat x = hat y) : x = y := by
  have := congrArg tl h
  rw [tl_hat, tl_hat] at this
  exact ext_tl (List.cons.inj this).2
theorem asc_nodup {l : List Nat} (h : l.Pairwise (· < ·)) : l.Nodup := h.imp fun q e => by omega
variable {r : Str} {w : Nat}
theorem codesS_mem {x : Str} {n : Nat} (h : x ∈ codesS r n) : (tl x).length = n ∧ ∀ c ∈ tl x, c ∈ tl r := by
  obtain ⟨c, hc, e⟩ := List.mem_map.mp h
  subst e
  rw [tl_mk']
  exact codesN_mem hc
theorem pre_mem (s : Sz r w) {x : Str} (h : x ∈ preNames r w) : (∃ n, 1 ≤ n ∧ n ≤ 3 ∧ x ∈ codesS r n) ∨ ∃ n y, 1 ≤ n ∧ n ≤ 3 ∧ y ∈ codesS r n ∧ x = hat y := by
  rcases List.mem_append.mp h with h | h
  · exact .inl ⟨w, s.w1, s.w3, h⟩
  · obtain ⟨k, hk, h⟩ := List.mem_flatMap.mp h
    obtain ⟨y, hy, e⟩ := List.mem_map.mp h
    have := List.mem_range.mp hk
    exact .inr ⟨k + 1, y, by omega, by have := s.w3; omega, hy, e.symm⟩
theorem codes_low (s : Sz r w) {x : Str} {n : Nat} (h : x ∈ codesS r n) : ∀ c ∈ tl x, 97 ≤ c ∧ c ≤ 122 := fun c hc => s.low c ((codesS_mem h).2 c hc)
theorem pre_st (s : Sz r w) {x : Str} (h : x ∈ preNames r w) : isSt x := by
  rcases pre_mem s h with ⟨n, h1, h2, h3⟩ | ⟨n, y, h1, h2, h3, e⟩
  · have := (codesS_mem h3).1
    exact .inl ⟨fun z => by rw [z] at this; simp at this; omega, by omega, codes_low s h3⟩
  · have := (codesS_mem h3).1
    subst e
    exact .inr ⟨tl y, tl_hat y, fun z => by rw [z] at this; simp at this; omega, by omega, codes_low s h3⟩
theorem pre_nodup (s : Sz r w) : (preNames r w).Nodup := by
  have hr := asc_nodup s.asc
  refine List.nodup_append.mpr ⟨codesS_nodup hr w, ?_, fun x hx y hy e => ?_⟩
  · refine nodup_flatMap List.nodup_range (fun k _ => ?_) fun a _ b _ x hx hy => ?_
    · exact List.pairwise_map.mpr ((codesS_nodup hr _).imp fun q e => q (hat_inj e))
    · obtain ⟨p, hp, e1⟩ := List.mem_map.mp hx
      obtain ⟨q, hq, e2⟩ := List.mem_map.mp hy
      have e := hat_inj (e1.trans e2.symm)
      subst e
      have h1 := (codesS_mem hp).1
      have h2 := (codesS_mem hq).1
      omega
  · subst e
    obtain ⟨k, _, h⟩ := List.mem_flatMap.mp hy
    obtain ⟨z, hz, e⟩ := List.mem_map.mp h
    have h1 := codes_low s hx
    rw [← e, tl_hat] at h1
    have := h1 94 List.mem_cons_self
    omega
theorem pre_len (s : Sz r w) : (preNames r w).length < 64 := by
  have h1 := s.w1
  have h3 := s.w3
  have h4 := s.four
  have h5 := s.few
  have hc : ∀ n, (codesS r n).length = (tl r).length ^ n := fun n => by unfold codesS; rw [List.length_map, codesN_len]
  unfold preNames
  rw [List.length_append, List.length_flatMap]
  simp only [List.length_map, hc]
  generalize (tl r).length = m at *
  obtain h | h | h : w = 1 ∨ w = 2 ∨ w = 3 := by omega
  · subst h; simp; omega
  · subst h
    have : m ^ 2 ≤ 4 ^ 2 := Nat.pow_le_pow_left h4 2
    simp [List.range_succ]
    omega
  · subst h
    have h6 := h5 rfl
    have e1 : m ^ 3 ≤ 3 ^ 3 := Nat.pow_le_pow_left h6 3
    have e2 : m ^ 2 ≤ 3 ^ 2 := Nat.pow_le_pow_left h6 2
    simp [List.range_succ]
    omega
theorem pre_ne (s : Sz r w) : preNames r w ≠ [] := fun z => by
  have hc : (codesS r w).length = (tl r).length ^ w := by unfold codesS; rw [List.length_map, codesN_len]
  have h0 : codesS r w = [] := (List.append_eq_nil_iff.mp z).1
  rw [h0] at hc
  have := Nat.pow_pos (n := w) s.one
  rw [List.length_nil] at hc
  omega
theorem names_perm (r : Str) (w : Nat) : (names r w).Perm (preNames r w) := sortS_perm _
theorem names_nodup (s : Sz r w) : (names r w).Nodup := (names_perm r w).nodup_iff.mpr (pre_nodup s)
theorem names_len (s : Sz r w) : (names r w).length < 64 := by rw [(names_perm r w).length_eq]; exact pre_len s
theorem names_ne (s : Sz r w) : names r w ≠ [] := fun z => by
  have := (names_perm r w).length_eq
  rw [z] at this
  exact pre_ne s (List.length_eq_zero_iff.mp this.symm)
theorem names_st (s : Sz r w) {x : Str} (h : x ∈ names r w) : isSt x := pre_st s ((names_perm r w).mem_iff.mp h)
theorem names_sorted (r : Str) (w : Nat) : (names r w).Pairwise fun a b => leS a b = true := sortS_pw _
theorem sort_names (r : Str) (w : Nat) : sortS (names r w) = names r w := (List.Perm.eq_of_pairwise (fun a b _ _ h1 h2 => leS_anti h1 h2) (names_sorted r w) (sortS_pw _) (sortS_perm _).symm).symm
end K86

set_option Elab.async false
set_option linter.all false
set_option maxRecDepth 100000
set_option maxHeartbeats 2000000
/-! DX: texts -/
namespace DL
open PySem L2 TL
theorem tl_cut1 {z : Str} {c : Nat} {l : List Nat} (h : tl z = c :: l) : tl (cutS z (some 1) none) = l := by
  show ((tl z).drop (HT.sIx z.length 0 (some 1))).take (HT.sIx z.length z.length none - HT.sIx z.length 0 (some 1)) = l
  have hl : z.length = l.length + 1 := by rw [len_tl, h]; rfl
  have e1 : HT.sIx z.length 0 (some 1) = 1 := by
    rw [show (1 : Int) = ((1 : Nat) : Int) from rfl, HT.sIx_nat]; omega
  rw [e1, h, HT.sIx_none, hl]
  simp
theorem starts1 {x y : Str} {c : Nat} (h : tl y = [c]) : Txt.startswith x y = decide ((tl x).head? = some c) := by
  have hy : y.length = 1 := by rw [len_tl, h]; rfl
  have ey : y.cps = #[c] := Array.toList_inj.mp (by rw [show y.cps.toList = [c] from h])
  unfold Txt.startswith Builtin.Str.subAt
  rw [hy, ey]
  cases hx : tl x with
  | nil =>
    have : x.length = 0 := by rw [len_tl, hx]; rfl
    simp [this]
  | cons d l =>
    have hl : x.length = l.length + 1 := by rw [len_tl, hx]; rfl
    have ex : x.cps.extract 0 (0 + 1) = #[d] := Array.toList_inj.mp (by
      rw [Array.toList_extract]
      show (tl x).extract 0 1 = [d]
      rw [hx]
      simp [List.extract])
    rw [ex]
    simp [hl]
    by_cases q : d = c <;> simp [q]
theorem joinL_snoc (S : List Nat) : ∀ (l : List (List Nat)), l ≠ [] → joinL S (l ++ [[]]) = joinL S l ++ S
  | [], h => absurd rfl h
  | [p], _ => by simp [joinL]
  | p :: q :: r, _ => by
    have ih := joinL_snoc S (q :: r) (by simp)
    show p ++ (S ++ joinL S (q :: r ++ [[]])) = p ++ (S ++ joinL S (q :: r)) ++ S
    rw [ih]
    simp
theorem join_snoc (y : Str) (l : List Str) (h : l ≠ []) : Txt.join y (l ++ [Str.empty]) = Txt.join y l ++ y := by
  refine ext_tl ?_
  rw [tl_append, join_eq, join_eq, tl_join, tl_join, List.map_append]
  exact joinL_snoc _ _ (by simpa using h)
theorem joinL_len (S : List Nat) : ∀ (l : List (List Nat)), (joinL S l).length ≤ (l.map List.length).sum + l.length * S.length
  | [] => by simp [joinL]
  | [p] => by simp [joinL]
  | p :: q :: r => by
    have ih := joinL_len S (q :: r)
    show (p ++ (S ++ joinL S (q :: r))).length ≤ _
    simp only [List.length_append, List.map_cons, List.sum_cons, List.length_cons, Nat.add_mul, Nat.one_mul] at ih ⊢
    omega
theorem join_len (y : Str) (l : List Str) : (Txt.join y l).length ≤ (l.map (·.length)).sum + l.length * y.length := by
  rw [join_eq, len_tl, tl_join]
  refine Nat.le_trans (joinL_len _ _) ?_
  rw [List.map_map, List.length_map, len_tl y]
  have : (List.length ∘ tl) = fun x : Str => x.length := funext fun x => (len_tl x).symm
  rw [this]
  exact Nat.le_refl _
theorem sum_le {α : Type} (f : α → Nat) (b : Nat) : ∀ (l : List α), (∀ x ∈ l, f x ≤ b) → (l.map f).sum ≤ l.length * b
  | [], _ => by simp
  | x :: l, h => by
    have := sum_le f b l fun y hy => h y (List.mem_cons_of_mem _ hy)
    have h1 := h x List.mem_cons_self
    simp only [List.map_cons, List.sum_cons, List.length_cons, Nat.add_mul, Nat.one_mul]
    omega
theorem numL_head : ∀ (n : Nat), 0 < n → (numL n).head? ≠ some 48 := by
  intro n
  induction n using Nat.strongRecOn with
  | ind n ih =>
    intro hn
    by_cases h : n < 10
    · rw [numL_lt h]
      simp; omega
    · rw [numL_step (by omega)]
      have := ih (n / 10) (by omega) (by omega)
      have hne := numL_ne (n / 10)
      cases q : numL (n / 10) with
      | nil => exact absurd q hne
      | cons a l => rw [q] at this; simpa using this
theorem head_sign {x : Str} {c : Nat} {l : List Nat} (h : tl x = c :: l) : atI x.cps.toList 0 = some c := by
  show atI (tl x) 0 = some c
  rw [h]; exact atI_0 c l
theorem sign_eq (c d : Nat) : ((⟨#[c]⟩ : Str) = ⟨#[d]⟩) ↔ c = d := by
  constructor
  · intro h
    have := congrArg tl h
    simpa using this
  · intro h; rw [h]
theorem slice_last (l : List D) (a : D) : ((l ++ [a]).drop (HT.sIx (l ++ [a]).length 0 none)).take (HT.sIx (l ++ [a]).length (l ++ [a]).length (some (-1)) - HT.sIx (l ++ [a]).length 0 none) = l := by
  have e : HT.sIx (l ++ [a]).length (l ++ [a]).length (some (-1)) = l.length := by
    have q : ∀ n : Nat, HT.sIx n n (some (-1)) = ((-1 : Int) + n).toNat := fun n => rfl
    rw [q, List.length_append, List.length_singleton]
    omega
  rw [e, HT.sIx_none]
  simp
theorem slice_tail (a : D) (l : List D) : ((a :: l).drop (HT.sIx (a :: l).length 0 (some 1))).take (HT.sIx (a :: l).length (a :: l).length none - HT.sIx (a :: l).length 0 (some 1)) = l := by
  have e : HT.sIx (a :: l).length 0 (some 1) = 1 := by
    rw [show (1 : Int) = ((1 : Nat) : Int) from rfl, HT.sIx_nat, List.length_cons]; omega
  rw [e, HT.sIx_none]
  simp
end DL

set_option Elab.async false
set_option linter.all false
set_option maxRecDepth 100000
set_option maxHeartbeats 2000000
namespace K86
open PySem L2 DL TL
theorem log_sm {i : Int} (h : i.natAbs < 10 ^ 52) : i.natAbs.log2 < 1920 := by
  by_cases z : i.natAbs = 0
  · rw [z]; decide
  · rw [Nat.log2_lt z]
    exact Nat.lt_of_lt_of_le h (by decide +kernel)
theorem log_bot {i : Int} (h : 0 < i) (h2 : i < 10 ^ 4) : i.natAbs.log2 < 1920 := log_sm (by omega)
theorem tl_numS (n : Nat) : tl (numS (n : Int)) = numL n := tl_num n
theorem tl_numS_neg (n : Nat) (h : 0 < n) : tl (numS (-(n : Int))) = 45 :: numL n := by
  obtain ⟨m, rfl⟩ : ∃ m, n = m + 1 := ⟨n - 1, by omega⟩
  have e : (-((m + 1 : Nat) : Int)) = Int.negSucc m := rfl
  unfold numS
  rw [e, tl_ofString]
  show (("-" ++ Nat.repr (m + 1) : String)).toList.map Char.toNat = 45 :: numL (m + 1)
  rw [String.toList_append, List.map_append, Nat.toList_repr]
  rfl
theorem numL_len' {n : Nat} (h : n < 10 ^ 52) : (numL n).length ≤ 52 := numL_len (by decide) h
theorem numS_len {i : Int} (h : i.natAbs < 10 ^ 52) : (numS i).length ≤ 53 := by
  rcases Int.lt_or_le i 0 with z | z
  · obtain ⟨n, rfl⟩ : ∃ n : Nat, i = -(n : Int) := ⟨i.natAbs, by omega⟩
    rw [len_tl, tl_numS_neg n (by omega), List.length_cons]
    have := numL_len' (n := n) (by omega)
    omega
  · obtain ⟨n, rfl⟩ := Int.eq_ofNat_of_zero_le z
    rw [len_tl]
    show (tl (numS (n : Int))).length ≤ 53
    rw [tl_numS]
    have := numL_len' (n := n) (by simpa using h)
    omega
theorem emp_app (x : Str) : Str.empty ++ x = x := ext_tl (by rw [tl_append]; rfl)
theorem app_emp (x : Str) : x ++ Str.empty = x := ext_tl (by rw [tl_append]; exact List.append_nil _)
theorem app_len (x y : Str) : (x ++ y).length = x.length + y.length := by rw [len_tl, tl_append, List.length_append, ← len_tl, ← len_tl]
theorem len_1 {x : Str} {c : Nat} (h : tl x = [c]) : x.length = 1 := by rw [len_tl, h]; rfl
theorem tl_slash : tl (Str.ofString "/") = [47] := by decide +kernel
theorem h_is_integer : ∀ ds r, M_is_integer ds r → t_is_integer (endsP r) (startD N_is_integer.length ds) := by
  rintro _ _ ⟨i, rfl, rfl⟩
  simp only [DL.dVar, DL.dC, DL.dBin, DL.dUn, DL.dTest, DL.dIf, DL.dAnd, DL.dOr, DL.dNot, DL.dAndV, DL.dOrV, DL.dNotV, DL.dChain, DL.dNil, DL.dCons, DL.dTup, DL.dLst, DL.dDK, DL.dFz, DL.dCallL, DL.dCallP, DL.dCallN, DL.dCallT, DL.dCallTN, DL.dMake, DL.dProp, DL.dMeth, DL.dFmt, DL.dJs, DL.look, DL.lookL, DL.frz, DL.frzL, DL.startD, DL.startT, DL.sSeq, DL.sIf, DL.sRet, DL.sRetNew, DL.sRetN, DL.sAsg, DL.sNew, DL.sDrop, DL.sNext, DL.sPar, DL.sFor, DL.dSet, DL.endsP, DL.endsN, DL.endsT, DL.endsTN, DL.SV.toD, DL.Cell.toD, DL.isTy_str, DL.ixD_lst, DL.ixD_tup, DL.ixD_str, DL.ixD_dKs, DL.ixD_dKi, DL.inG_dKs, DL.inG_sign, DL.eqG_int, DL.eqG_str, DL.eqG_bl, DL.addD_int, DL.addD_str, DL.addD_lst, DL.addD_tup, DL.intD_int, DL.cmpD_int, DL.cmpD_str, DL.negD, DL.isNG1, DL.isN, DL.isiG, DL.isD, DL.isAnyG, DL.isAny, DL.isInsG, DL.lenG_str, DL.lenG_lst, DL.lenG_tup, DL.lenG_dK, DL.lenG_scr, DL.intG_int, DL.intG_bl, DL.intG_str, DL.strG, DL.absG, DL.two, DL.listG2_dK, DL.listG2_lst, DL.listG2_tup, DL.listG2_scr, DL.tupleG_lst, DL.tupleG_tup, DL.allG, DL.dSlice, DL.dNo, DL.dPart, DL.cutD_str, DL.cutD_lst, DL.cutD_tup, DL.dGNil, DL.dGCons, DL.dTupT, DL.dIter, DL.dRange1, DL.dRange2, DL.atI_0, DL.atI_1, DL.atI_2, DL.atI_3, DL.atI_4, DL.hotAt, DL.putAt, DL.SV.put, DL.dAppend, DL.dExtend, DL.sStore, DL.storeD, DL.sFldD, DL.putFD, DL.dFld, DL.splitG, DL.partitionG, DL.startsG, DL.joinG, DL.dClear, List.getElem?_cons_zero, List.getElem?_cons_succ, List.set_cons_zero, List.set_cons_succ, List.length_cons, List.length_nil, List.map_cons, List.map_nil, List.replicate_succ, List.replicate_zero, List.nil_append, List.cons_append, Nat.reduceAdd, Nat.reduceSub, Bool.bne_false, Bool.bne_true, Bool.not_true, Bool.not_false, decide_eq_true_eq, Bool.false_eq_true, reduceIte, and_true, true_and, if_true, if_false, decide_true, decide_false, t_is_integer]
theorem h_is_pair : ∀ ds r, M_is_pair ds r → t_is_pair (endsP r) (startD N_is_pair.length ds) := by
  rintro _ _ ⟨a, b, rfl, rfl⟩
  simp only [DL.dVar, DL.dC, DL.dBin, DL.dUn, DL.dTest, DL.dIf, DL.dAnd, DL.dOr, DL.dNot, DL.dAndV, DL.dOrV, DL.dNotV, DL.dChain, DL.dNil, DL.dCons, DL.dTup, DL.dLst, DL.dDK, DL.dFz, DL.dCallL, DL.dCallP, DL.dCallN, DL.dCallT, DL.dCallTN, DL.dMake, DL.dProp, DL.dMeth, DL.dFmt, DL.dJs, DL.look, DL.lookL, DL.frz, DL.frzL, DL.startD, DL.startT, DL.sSeq, DL.sIf, DL.sRet, DL.sRetNew, DL.sRetN, DL.sAsg, DL.sNew, DL.sDrop, DL.sNext, DL.sPar, DL.sFor, DL.dSet, DL.endsP, DL.endsN, DL.endsT, DL.endsTN, DL.SV.toD, DL.Cell.toD, DL.isTy_str, DL.ixD_lst, DL.ixD_tup, DL.ixD_str, DL.ixD_dKs, DL.ixD_dKi, DL.inG_dKs, DL.inG_sign, DL.eqG_int, DL.eqG_str, DL.eqG_bl, DL.addD_int, DL.addD_str, DL.addD_lst, DL.addD_tup, DL.intD_int, DL.cmpD_int, DL.cmpD_str, DL.negD, DL.isNG1, DL.isN, DL.isiG, DL.isD, DL.isAnyG, DL.isAny, DL.isInsG, DL.lenG_str, DL.lenG_lst, DL.lenG_tup, DL.lenG_dK, DL.lenG_scr, DL.intG_int, DL.intG_bl, DL.intG_str, DL.strG, DL.absG, DL.two, DL.listG2_dK, DL.listG2_lst, DL.listG2_tup, DL.listG2_scr, DL.tupleG_lst, DL.tupleG_tup, DL.allG, DL.dSlice, DL.dNo, DL.dPart, DL.cutD_str, DL.cutD_lst, DL.cutD_tup, DL.dGNil, DL.dGCons, DL.dTupT, DL.dIter, DL.dRange1, DL.dRange2, DL.atI_0, DL.atI_1, DL.atI_2, DL.atI_3, DL.atI_4, DL.hotAt, DL.putAt, DL.SV.put, DL.dAppend, DL.dExtend, DL.sStore, DL.storeD, DL.sFldD, DL.putFD, DL.dFld, DL.splitG, DL.partitionG, DL.startsG, DL.joinG, DL.dClear, List.getElem?_cons_zero, List.getElem?_cons_succ, List.set_cons_zero, List.set_cons_succ, List.length_cons, List.length_nil, List.map_cons, List.map_nil, List.replicate_succ, List.replicate_zero, List.nil_append, List.cons_append, Nat.reduceAdd, Nat.reduceSub, Bool.bne_false, Bool.bne_true, Bool.not_true, Bool.not_false, decide_eq_true_eq, Bool.false_eq_true, reduceIte, and_true, true_and, if_true, if_false, decide_true, decide_false, t_is_pair]
  rfl
theorem fit {n : Nat} (h : n ≤ 1000) : n ≤ sizeLine := Nat.le_trans h (by decide)
theorem h_fraction_text : ∀ ds r, M_fraction_text ds r → t_fraction_text (endsP r) (startD N_fraction_text.length ds) := by
  rintro _ _ ⟨⟨a, b⟩, ⟨h1, h2, h3, h4⟩, rfl, rfl⟩
  have l1 : (numS a).length ≤ 53 := numS_len h1
  have l2 := numS_len (i := b) (by simp only at h2 h3; omega)
  have l3 := len_1 tl_slash
  unfold numS at l1 l2
  simp only [DL.dVar, DL.dC, DL.dBin, DL.dUn, DL.dTest, DL.dIf, DL.dAnd, DL.dOr, DL.dNot, DL.dAndV, DL.dOrV, DL.dNotV, DL.dChain, DL.dNil, DL.dCons, DL.dTup, DL.dLst, DL.dDK, DL.dFz, DL.dCallL, DL.dCallP, DL.dCallN, DL.dCallT, DL.dCallTN, DL.dMake, DL.dProp, DL.dMeth, DL.dFmt, DL.dJs, DL.look, DL.lookL, DL.frz, DL.frzL, DL.startD, DL.startT, DL.sSeq, DL.sIf, DL.sRet, DL.sRetNew, DL.sRetN, DL.sAsg, DL.sNew, DL.sDrop, DL.sNext, DL.sPar, DL.sFor, DL.dSet, DL.endsP, DL.endsN, DL.endsT, DL.endsTN, DL.SV.toD, DL.Cell.toD, DL.isTy_str, DL.ixD_lst, DL.ixD_tup, DL.ixD_str, DL.ixD_dKs, DL.ixD_dKi, DL.inG_dKs, DL.inG_sign, DL.eqG_int, DL.eqG_str, DL.eqG_bl, DL.addD_int, DL.addD_str, DL.addD_lst, DL.addD_tup, DL.intD_int, DL.cmpD_int, DL.cmpD_str, DL.negD, DL.isNG1, DL.isN, DL.isiG, DL.isD, DL.isAnyG, DL.isAny, DL.isInsG, DL.lenG_str, DL.lenG_lst, DL.lenG_tup, DL.lenG_dK, DL.lenG_scr, DL.intG_int, DL.intG_bl, DL.intG_str, DL.strG, DL.absG, DL.two, DL.listG2_dK, DL.listG2_lst, DL.listG2_tup, DL.listG2_scr, DL.tupleG_lst, DL.tupleG_tup, DL.allG, DL.dSlice, DL.dNo, DL.dPart, DL.cutD_str, DL.cutD_lst, DL.cutD_tup, DL.dGNil, DL.dGCons, DL.dTupT, DL.dIter, DL.dRange1, DL.dRange2, DL.atI_0, DL.atI_1, DL.atI_2, DL.atI_3, DL.atI_4, DL.hotAt, DL.putAt, DL.SV.put, DL.dAppend, DL.dExtend, DL.sStore, DL.storeD, DL.sFldD, DL.putFD, DL.dFld, DL.splitG, DL.partitionG, DL.startsG, DL.joinG, DL.dClear, List.getElem?_cons_zero, List.getElem?_cons_succ, List.set_cons_zero, List.set_cons_succ, List.length_cons, List.length_nil, List.map_cons, List.map_nil, List.replicate_succ, List.replicate_zero, List.nil_append, List.cons_append, Nat.reduceAdd, Nat.reduceSub, Bool.bne_false, Bool.bne_true, Bool.not_true, Bool.not_false, decide_eq_true_eq, Bool.false_eq_true, reduceIte, and_true, true_and, if_true, if_false, decide_true, decide_false, t_fraction_text, frD, frS, emp_app, numS, app_len]
  split
  · exact ⟨log_sm h1, rfl⟩
  · exact ⟨log_sm h1, fit (by omega), fit (by omega), log_bot h2 h3, fit (by omega), rfl⟩
theorem h__law_fraction_text : ∀ ds r, M__law_fraction_text ds r → t__law_fraction_text (endsP r) (startD N__law_fraction_text.length ds) := by
  rintro _ _ ⟨⟨a, b⟩, ⟨h1, h2, h3, h4⟩, rfl, rfl⟩
  have l1 : (numS a).length ≤ 53 := numS_len h1
  have l2 := numS_len (i := b) (by simp only at h2 h3; omega)
  have l3 := len_1 tl_slash
  unfold numS at l1 l2
  simp only [DL.dVar, DL.dC, DL.dBin, DL.dUn, DL.dTest, DL.dIf, DL.dAnd, DL.dOr, DL.dNot, DL.dAndV, DL.dOrV, DL.dNotV, DL.dChain, DL.dNil, DL.dCons, DL.dTup, DL.dLst, DL.dDK, DL.dFz, DL.dCallL, DL.dCallP, DL.dCallN, DL.dCallT, DL.dCallTN, DL.dMake, DL.dProp, DL.dMeth, DL.dFmt, DL.dJs, DL.look, DL.lookL, DL.frz, DL.frzL, DL.startD, DL.startT, DL.sSeq, DL.sIf, DL.sRet, DL.sRetNew, DL.sRetN, DL.sAsg, DL.sNew, DL.sDrop, DL.sNext, DL.sPar, DL.sFor, DL.dSet, DL.endsP, DL.endsN, DL.endsT, DL.endsTN, DL.SV.toD, DL.Cell.toD, DL.isTy_str, DL.ixD_lst, DL.ixD_tup, DL.ixD_str, DL.ixD_dKs, DL.ixD_dKi, DL.inG_dKs, DL.inG_sign, DL.eqG_int, DL.eqG_str, DL.eqG_bl, DL.addD_int, DL.addD_str, DL.addD_lst, DL.addD_tup, DL.intD_int, DL.cmpD_int, DL.cmpD_str, DL.negD, DL.isNG1, DL.isN, DL.isiG, DL.isD, DL.isAnyG, DL.isAny, DL.isInsG, DL.lenG_str, DL.lenG_lst, DL.lenG_tup, DL.lenG_dK, DL.lenG_scr, DL.intG_int, DL.intG_bl, DL.intG_str, DL.strG, DL.absG, DL.two, DL.listG2_dK, DL.listG2_lst, DL.listG2_tup, DL.listG2_scr, DL.tupleG_lst, DL.tupleG_tup, DL.allG, DL.dSlice, DL.dNo, DL.dPart, DL.cutD_str, DL.cutD_lst, DL.cutD_tup, DL.dGNil, DL.dGCons, DL.dTupT, DL.dIter, DL.dRange1, DL.dRange2, DL.atI_0, DL.atI_1, DL.atI_2, DL.atI_3, DL.atI_4, DL.hotAt, DL.putAt, DL.SV.put, DL.dAppend, DL.dExtend, DL.sStore, DL.storeD, DL.sFldD, DL.putFD, DL.dFld, DL.splitG, DL.partitionG, DL.startsG, DL.joinG, DL.dClear, List.getElem?_cons_zero, List.getElem?_cons_succ, List.set_cons_zero, List.set_cons_succ, List.length_cons, List.length_nil, List.map_cons, List.map_nil, List.replicate_succ, List.replicate_zero, List.nil_append, List.cons_append, Nat.reduceAdd, Nat.reduceSub, Bool.bne_false, Bool.bne_true, Bool.not_true, Bool.not_false, decide_eq_true_eq, Bool.false_eq_true, reduceIte, and_true, true_and, if_true, if_false, decide_true, decide_false, t__law_fraction_text, frD, frS, emp_app, numS, app_len]
  split
  · exact ⟨log_sm h1, rfl⟩
  · exact ⟨log_sm h1, fit (by omega), log_bot h2 h3, fit (by omega), rfl⟩
theorem h_is_within : ∀ ds r, M_is_within ds r → t_is_within (endsP r) (startD N_is_within.length ds) := by
  rintro _ _ ⟨t, a, b, rfl, rfl⟩
  simp only [DL.dVar, DL.dC, DL.dBin, DL.dUn, DL.dTest, DL.dIf, DL.dAnd, DL.dOr, DL.dNot, DL.dAndV, DL.dOrV, DL.dNotV, DL.dChain, DL.dNil, DL.dCons, DL.dTup, DL.dLst, DL.dDK, DL.dFz, DL.dCallL, DL.dCallP, DL.dCallN, DL.dCallT, DL.dCallTN, DL.dMake, DL.dProp, DL.dMeth, DL.dFmt, DL.dJs, DL.look, DL.lookL, DL.frz, DL.frzL, DL.startD, DL.startT, DL.sSeq, DL.sIf, DL.sRet, DL.sRetNew, DL.sRetN, DL.sAsg, DL.sNew, DL.sDrop, DL.sNext, DL.sPar, DL.sFor, DL.dSet, DL.endsP, DL.endsN, DL.endsT, DL.endsTN, DL.SV.toD, DL.Cell.toD, DL.isTy_str, DL.ixD_lst, DL.ixD_tup, DL.ixD_str, DL.ixD_dKs, DL.ixD_dKi, DL.inG_dKs, DL.inG_sign, DL.eqG_int, DL.eqG_str, DL.eqG_bl, DL.addD_int, DL.addD_str, DL.addD_lst, DL.addD_tup, DL.intD_int, DL.cmpD_int, DL.cmpD_str, DL.negD, DL.isNG1, DL.isN, DL.isiG, DL.isD, DL.isAnyG, DL.isAny, DL.isInsG, DL.lenG_str, DL.lenG_lst, DL.lenG_tup, DL.lenG_dK, DL.lenG_scr, DL.intG_int, DL.intG_bl, DL.intG_str, DL.strG, DL.absG, DL.two, DL.listG2_dK, DL.listG2_lst, DL.listG2_tup, DL.listG2_scr, DL.tupleG_lst, DL.tupleG_tup, DL.allG, DL.dSlice, DL.dNo, DL.dPart, DL.cutD_str, DL.cutD_lst, DL.cutD_tup, DL.dGNil, DL.dGCons, DL.dTupT, DL.dIter, DL.dRange1, DL.dRange2, DL.atI_0, DL.atI_1, DL.atI_2, DL.atI_3, DL.atI_4, DL.hotAt, DL.putAt, DL.SV.put, DL.dAppend, DL.dExtend, DL.sStore, DL.storeD, DL.sFldD, DL.putFD, DL.dFld, DL.splitG, DL.partitionG, DL.startsG, DL.joinG, DL.dClear, List.getElem?_cons_zero, List.getElem?_cons_succ, List.set_cons_zero, List.set_cons_succ, List.length_cons, List.length_nil, List.map_cons, List.map_nil, List.replicate_succ, List.replicate_zero, List.nil_append, List.cons_append, Nat.reduceAdd, Nat.reduceSub, Bool.bne_false, Bool.bne_true, Bool.not_true, Bool.not_false, decide_eq_true_eq, Bool.false_eq_true, reduceIte, and_true, true_and, if_true, if_false, decide_true, decide_false, t_is_within]
  refine ⟨_, ⟨t, rfl, rfl⟩, ?_⟩
  simp only [DL.dVar, DL.dC, DL.dBin, DL.dUn, DL.dTest, DL.dIf, DL.dAnd, DL.dOr, DL.dNot, DL.dAndV, DL.dOrV, DL.dNotV, DL.dChain, DL.dNil, DL.dCons, DL.dTup, DL.dLst, DL.dDK, DL.dFz, DL.dCallL, DL.dCallP, DL.dCallN, DL.dCallT, DL.dCallTN, DL.dMake, DL.dProp, DL.dMeth, DL.dFmt, DL.dJs, DL.look, DL.lookL, DL.frz, DL.frzL, DL.startD, DL.startT, DL.sSeq, DL.sIf, DL.sRet, DL.sRetNew, DL.sRetN, DL.sAsg, DL.sNew, DL.sDrop, DL.sNext, DL.sPar, DL.sFor, DL.dSet, DL.endsP, DL.endsN, DL.endsT, DL.endsTN, DL.SV.toD, DL.Cell.toD, DL.isTy_str, DL.ixD_lst, DL.ixD_tup, DL.ixD_str, DL.ixD_dKs, DL.ixD_dKi, DL.inG_dKs, DL.inG_sign, DL.eqG_int, DL.eqG_str, DL.eqG_bl, DL.addD_int, DL.addD_str, DL.addD_lst, DL.addD_tup, DL.intD_int, DL.cmpD_int, DL.cmpD_str, DL.negD, DL.isNG1, DL.isN, DL.isiG, DL.isD, DL.isAnyG, DL.isAny, DL.isInsG, DL.lenG_str, DL.lenG_lst, DL.lenG_tup, DL.lenG_dK, DL.lenG_scr, DL.intG_int, DL.intG_bl, DL.intG_str, DL.strG, DL.absG, DL.two, DL.listG2_dK, DL.listG2_lst, DL.listG2_tup, DL.listG2_scr, DL.tupleG_lst, DL.tupleG_tup, DL.allG, DL.dSlice, DL.dNo, DL.dPart, DL.cutD_str, DL.cutD_lst, DL.cutD_tup, DL.dGNil, DL.dGCons, DL.dTupT, DL.dIter, DL.dRange1, DL.dRange2, DL.atI_0, DL.atI_1, DL.atI_2, DL.atI_3, DL.atI_4, DL.hotAt, DL.putAt, DL.SV.put, DL.dAppend, DL.dExtend, DL.sStore, DL.storeD, DL.sFldD, DL.putFD, DL.dFld, DL.splitG, DL.partitionG, DL.startsG, DL.joinG, DL.dClear, List.getElem?_cons_zero, List.getElem?_cons_succ, List.set_cons_zero, List.set_cons_succ, List.length_cons, List.length_nil, List.map_cons, List.map_nil, List.replicate_succ, List.replicate_zero, List.nil_append, List.cons_append, Nat.reduceAdd, Nat.reduceSub, Bool.bne_false, Bool.bne_true, Bool.not_true, Bool.not_false, decide_eq_true_eq, Bool.false_eq_true, reduceIte, and_true, true_and, if_true, if_false, decide_true, decide_false]
  by_cases h : a ≤ t
  · rw [decide_eq_true h]
    simp only [DL.dVar, DL.dC, DL.dBin, DL.dUn, DL.dTest, DL.dIf, DL.dAnd, DL.dOr, DL.dNot, DL.dAndV, DL.dOrV, DL.dNotV, DL.dChain, DL.dNil, DL.dCons, DL.dTup, DL.dLst, DL.dDK, DL.dFz, DL.dCallL, DL.dCallP, DL.dCallN, DL.dCallT, DL.dCallTN, DL.dMake, DL.dProp, DL.dMeth, DL.dFmt, DL.dJs, DL.look, DL.lookL, DL.frz, DL.frzL, DL.startD, DL.startT, DL.sSeq, DL.sIf, DL.sRet, DL.sRetNew, DL.sRetN, DL.sAsg, DL.sNew, DL.sDrop, DL.sNext, DL.sPar, DL.sFor, DL.dSet, DL.endsP, DL.endsN, DL.endsT, DL.endsTN, DL.SV.toD, DL.Cell.toD, DL.isTy_str, DL.ixD_lst, DL.ixD_tup, DL.ixD_str, DL.ixD_dKs, DL.ixD_dKi, DL.inG_dKs, DL.inG_sign, DL.eqG_int, DL.eqG_str, DL.eqG_bl, DL.addD_int, DL.addD_str, DL.addD_lst, DL.addD_tup, DL.intD_int, DL.cmpD_int, DL.cmpD_str, DL.negD, DL.isNG1, DL.isN, DL.isiG, DL.isD, DL.isAnyG, DL.isAny, DL.isInsG, DL.lenG_str, DL.lenG_lst, DL.lenG_tup, DL.lenG_dK, DL.lenG_scr, DL.intG_int, DL.intG_bl, DL.intG_str, DL.strG, DL.absG, DL.two, DL.listG2_dK, DL.listG2_lst, DL.listG2_tup, DL.listG2_scr, DL.tupleG_lst, DL.tupleG_tup, DL.allG, DL.dSlice, DL.dNo, DL.dPart, DL.cutD_str, DL.cutD_lst, DL.cutD_tup, DL.dGNil, DL.dGCons, DL.dTupT, DL.dIter, DL.dRange1, DL.dRange2, DL.atI_0, DL.atI_1, DL.atI_2, DL.atI_3, DL.atI_4, DL.hotAt, DL.putAt, DL.SV.put, DL.dAppend, DL.dExtend, DL.sStore, DL.storeD, DL.sFldD, DL.putFD, DL.dFld, DL.splitG, DL.partitionG, DL.startsG, DL.joinG, DL.dClear, List.getElem?_cons_zero, List.getElem?_cons_succ, List.set_cons_zero, List.set_cons_succ, List.length_cons, List.length_nil, List.map_cons, List.map_nil, List.replicate_succ, List.replicate_zero, List.nil_append, List.cons_append, Nat.reduceAdd, Nat.reduceSub, Bool.bne_false, Bool.bne_true, Bool.not_true, Bool.not_false, decide_eq_true_eq, Bool.false_eq_true, reduceIte, and_true, true_and, if_true, if_false, decide_true, decide_false, h]
  · rw [decide_eq_false h]
    simp only [DL.dVar, DL.dC, DL.dBin, DL.dUn, DL.dTest, DL.dIf, DL.dAnd, DL.dOr, DL.dNot, DL.dAndV, DL.dOrV, DL.dNotV, DL.dChain, DL.dNil, DL.dCons, DL.dTup, DL.dLst, DL.dDK, DL.dFz, DL.dCallL, DL.dCallP, DL.dCallN, DL.dCallT, DL.dCallTN, DL.dMake, DL.dProp, DL.dMeth, DL.dFmt, DL.dJs, DL.look, DL.lookL, DL.frz, DL.frzL, DL.startD, DL.startT, DL.sSeq, DL.sIf, DL.sRet, DL.sRetNew, DL.sRetN, DL.sAsg, DL.sNew, DL.sDrop, DL.sNext, DL.sPar, DL.sFor, DL.dSet, DL.endsP, DL.endsN, DL.endsT, DL.endsTN, DL.SV.toD, DL.Cell.toD, DL.isTy_str, DL.ixD_lst, DL.ixD_tup, DL.ixD_str, DL.ixD_dKs, DL.ixD_dKi, DL.inG_dKs, DL.inG_sign, DL.eqG_int, DL.eqG_str, DL.eqG_bl, DL.addD_int, DL.addD_str, DL.addD_lst, DL.addD_tup, DL.intD_int, DL.cmpD_int, DL.cmpD_str, DL.negD, DL.isNG1, DL.isN, DL.isiG, DL.isD, DL.isAnyG, DL.isAny, DL.isInsG, DL.lenG_str, DL.lenG_lst, DL.lenG_tup, DL.lenG_dK, DL.lenG_scr, DL.intG_int, DL.intG_bl, DL.intG_str, DL.strG, DL.absG, DL.two, DL.listG2_dK, DL.listG2_lst, DL.listG2_tup, DL.listG2_scr, DL.tupleG_lst, DL.tupleG_tup, DL.allG, DL.dSlice, DL.dNo, DL.dPart, DL.cutD_str, DL.cutD_lst, DL.cutD_tup, DL.dGNil, DL.dGCons, DL.dTupT, DL.dIter, DL.dRange1, DL.dRange2, DL.atI_0, DL.atI_1, DL.atI_2, DL.atI_3, DL.atI_4, DL.hotAt, DL.putAt, DL.SV.put, DL.dAppend, DL.dExtend, DL.sStore, DL.storeD, DL.sFldD, DL.putFD, DL.dFld, DL.splitG, DL.partitionG, DL.startsG, DL.joinG, DL.dClear, List.getElem?_cons_zero, List.getElem?_cons_succ, List.set_cons_zero, List.set_cons_succ, List.length_cons, List.length_nil, List.map_cons, List.map_nil, List.replicate_succ, List.replicate_zero, List.nil_append, List.cons_append, Nat.reduceAdd, Nat.reduceSub, Bool.bne_false, Bool.bne_true, Bool.not_true, Bool.not_false, decide_eq_true_eq, Bool.false_eq_true, reduceIte, and_true, true_and, if_true, if_false, decide_true, decide_false, h, false_and]
theorem h_is_width : ∀ ds r, M_is_width ds r → t_is_width (endsP r) (startD N_is_width.length ds) := by
  rintro _ _ ⟨w, h1, h2, rfl, rfl⟩
  simp only [DL.dVar, DL.dC, DL.dBin, DL.dUn, DL.dTest, DL.dIf, DL.dAnd, DL.dOr, DL.dNot, DL.dAndV, DL.dOrV, DL.dNotV, DL.dChain, DL.dNil, DL.dCons, DL.dTup, DL.dLst, DL.dDK, DL.dFz, DL.dCallL, DL.dCallP, DL.dCallN, DL.dCallT, DL.dCallTN, DL.dMake, DL.dProp, DL.dMeth, DL.dFmt, DL.dJs, DL.look, DL.lookL, DL.frz, DL.frzL, DL.startD, DL.startT, DL.sSeq, DL.sIf, DL.sRet, DL.sRetNew, DL.sRetN, DL.sAsg, DL.sNew, DL.sDrop, DL.sNext, DL.sPar, DL.sFor, DL.dSet, DL.endsP, DL.endsN, DL.endsT, DL.endsTN, DL.SV.toD, DL.Cell.toD, DL.isTy_str, DL.ixD_lst, DL.ixD_tup, DL.ixD_str, DL.ixD_dKs, DL.ixD_dKi, DL.inG_dKs, DL.inG_sign, DL.eqG_int, DL.eqG_str, DL.eqG_bl, DL.addD_int, DL.addD_str, DL.addD_lst, DL.addD_tup, DL.intD_int, DL.cmpD_int, DL.cmpD_str, DL.negD, DL.isNG1, DL.isN, DL.isiG, DL.isD, DL.isAnyG, DL.isAny, DL.isInsG, DL.lenG_str, DL.lenG_lst, DL.lenG_tup, DL.lenG_dK, DL.lenG_scr, DL.intG_int, DL.intG_bl, DL.intG_str, DL.strG, DL.absG, DL.two, DL.listG2_dK, DL.listG2_lst, DL.listG2_tup, DL.listG2_scr, DL.tupleG_lst, DL.tupleG_tup, DL.allG, DL.dSlice, DL.dNo, DL.dPart, DL.cutD_str, DL.cutD_lst, DL.cutD_tup, DL.dGNil, DL.dGCons, DL.dTupT, DL.dIter, DL.dRange1, DL.dRange2, DL.atI_0, DL.atI_1, DL.atI_2, DL.atI_3, DL.atI_4, DL.hotAt, DL.putAt, DL.SV.put, DL.dAppend, DL.dExtend, DL.sStore, DL.storeD, DL.sFldD, DL.putFD, DL.dFld, DL.splitG, DL.partitionG, DL.startsG, DL.joinG, DL.dClear, List.getElem?_cons_zero, List.getElem?_cons_succ, List.set_cons_zero, List.set_cons_succ, List.length_cons, List.length_nil, List.map_cons, List.map_nil, List.replicate_succ, List.replicate_zero, List.nil_append, List.cons_append, Nat.reduceAdd, Nat.reduceSub, Bool.bne_false, Bool.bne_true, Bool.not_true, Bool.not_false, decide_eq_true_eq, Bool.false_eq_true, reduceIte, and_true, true_and, if_true, if_false, decide_true, decide_false, t_is_width]
  exact ⟨_, ⟨w, 1, 3, rfl, rfl⟩, by rw [decide_eq_true ⟨h1, h2⟩]⟩
theorem h_is_fraction : ∀ ds r, M_is_fraction ds r → t_is_fraction (endsP r) (startD N_is_fraction.length ds) := by
  rintro _ _ ⟨⟨a, b⟩, ⟨h1, h2, h3, h4⟩, rfl, rfl⟩
  simp only at h2 h3 h4
  simp only [DL.dVar, DL.dC, DL.dBin, DL.dUn, DL.dTest, DL.dIf, DL.dAnd, DL.dOr, DL.dNot, DL.dAndV, DL.dOrV, DL.dNotV, DL.dChain, DL.dNil, DL.dCons, DL.dTup, DL.dLst, DL.dDK, DL.dFz, DL.dCallL, DL.dCallP, DL.dCallN, DL.dCallT, DL.dCallTN, DL.dMake, DL.dProp, DL.dMeth, DL.dFmt, DL.dJs, DL.look, DL.lookL, DL.frz, DL.frzL, DL.startD, DL.startT, DL.sSeq, DL.sIf, DL.sRet, DL.sRetNew, DL.sRetN, DL.sAsg, DL.sNew, DL.sDrop, DL.sNext, DL.sPar, DL.sFor, DL.dSet, DL.endsP, DL.endsN, DL.endsT, DL.endsTN, DL.SV.toD, DL.Cell.toD, DL.isTy_str, DL.ixD_lst, DL.ixD_tup, DL.ixD_str, DL.ixD_dKs, DL.ixD_dKi, DL.inG_dKs, DL.inG_sign, DL.eqG_int, DL.eqG_str, DL.eqG_bl, DL.addD_int, DL.addD_str, DL.addD_lst, DL.addD_tup, DL.intD_int, DL.cmpD_int, DL.cmpD_str, DL.negD, DL.isNG1, DL.isN, DL.isiG, DL.isD, DL.isAnyG, DL.isAny, DL.isInsG, DL.lenG_str, DL.lenG_lst, DL.lenG_tup, DL.lenG_dK, DL.lenG_scr, DL.intG_int, DL.intG_bl, DL.intG_str, DL.strG, DL.absG, DL.two, DL.listG2_dK, DL.listG2_lst, DL.listG2_tup, DL.listG2_scr, DL.tupleG_lst, DL.tupleG_tup, DL.allG, DL.dSlice, DL.dNo, DL.dPart, DL.cutD_str, DL.cutD_lst, DL.cutD_tup, DL.dGNil, DL.dGCons, DL.dTupT, DL.dIter, DL.dRange1, DL.dRange2, DL.atI_0, DL.atI_1, DL.atI_2, DL.atI_3, DL.atI_4, DL.hotAt, DL.putAt, DL.SV.put, DL.dAppend, DL.dExtend, DL.sStore, DL.storeD, DL.sFldD, DL.putFD, DL.dFld, DL.splitG, DL.partitionG, DL.startsG, DL.joinG, DL.dClear, List.getElem?_cons_zero, List.getElem?_cons_succ, List.set_cons_zero, List.set_cons_succ, List.length_cons, List.length_nil, List.map_cons, List.map_nil, List.replicate_succ, List.replicate_zero, List.nil_append, List.cons_append, Nat.reduceAdd, Nat.reduceSub, Bool.bne_false, Bool.bne_true, Bool.not_true, Bool.not_false, decide_eq_true_eq, Bool.false_eq_true, reduceIte, and_true, true_and, if_true, if_false, decide_true, decide_false, t_is_fraction, frD]
  refine ⟨_, ⟨_, _, rfl, rfl⟩, ?_⟩
  simp only [DL.dVar, DL.dC, DL.dBin, DL.dUn, DL.dTest, DL.dIf, DL.dAnd, DL.dOr, DL.dNot, DL.dAndV, DL.dOrV, DL.dNotV, DL.dChain, DL.dNil, DL.dCons, DL.dTup, DL.dLst, DL.dDK, DL.dFz, DL.dCallL, DL.dCallP, DL.dCallN, DL.dCallT, DL.dCallTN, DL.dMake, DL.dProp, DL.dMeth, DL.dFmt, DL.dJs, DL.look, DL.lookL, DL.frz, DL.frzL, DL.startD, DL.startT, DL.sSeq, DL.sIf, DL.sRet, DL.sRetNew, DL.sRetN, DL.sAsg, DL.sNew, DL.sDrop, DL.sNext, DL.sPar, DL.sFor, DL.dSet, DL.endsP, DL.endsN, DL.endsT, DL.endsTN, DL.SV.toD, DL.Cell.toD, DL.isTy_str, DL.ixD_lst, DL.ixD_tup, DL.ixD_str, DL.ixD_dKs, DL.ixD_dKi, DL.inG_dKs, DL.inG_sign, DL.eqG_int, DL.eqG_str, DL.eqG_bl, DL.addD_int, DL.addD_str, DL.addD_lst, DL.addD_tup, DL.intD_int, DL.cmpD_int, DL.cmpD_str, DL.negD, DL.isNG1, DL.isN, DL.isiG, DL.isD, DL.isAnyG, DL.isAny, DL.isInsG, DL.lenG_str, DL.lenG_lst, DL.lenG_tup, DL.lenG_dK, DL.lenG_scr, DL.intG_int, DL.intG_bl, DL.intG_str, DL.strG, DL.absG, DL.two, DL.listG2_dK, DL.listG2_lst, DL.listG2_tup, DL.listG2_scr, DL.tupleG_lst, DL.tupleG_tup, DL.allG, DL.dSlice, DL.dNo, DL.dPart, DL.cutD_str, DL.cutD_lst, DL.cutD_tup, DL.dGNil, DL.dGCons, DL.dTupT, DL.dIter, DL.dRange1, DL.dRange2, DL.atI_0, DL.atI_1, DL.atI_2, DL.atI_3, DL.atI_4, DL.hotAt, DL.putAt, DL.SV.put, DL.dAppend, DL.dExtend, DL.sStore, DL.storeD, DL.sFldD, DL.putFD, DL.dFld, DL.splitG, DL.partitionG, DL.startsG, DL.joinG, DL.dClear, List.getElem?_cons_zero, List.getElem?_cons_succ, List.set_cons_zero, List.set_cons_succ, List.length_cons, List.length_nil, List.map_cons, List.map_nil, List.replicate_succ, List.replicate_zero, List.nil_append, List.cons_append, Nat.reduceAdd, Nat.reduceSub, Bool.bne_false, Bool.bne_true, Bool.not_true, Bool.not_false, decide_eq_true_eq, Bool.false_eq_true, reduceIte, and_true, true_and, if_true, if_false, decide_true, decide_false]
  refine ⟨_, ⟨_, rfl, rfl⟩, ?_⟩
  simp only [DL.dVar, DL.dC, DL.dBin, DL.dUn, DL.dTest, DL.dIf, DL.dAnd, DL.dOr, DL.dNot, DL.dAndV, DL.dOrV, DL.dNotV, DL.dChain, DL.dNil, DL.dCons, DL.dTup, DL.dLst, DL.dDK, DL.dFz, DL.dCallL, DL.dCallP, DL.dCallN, DL.dCallT, DL.dCallTN, DL.dMake, DL.dProp, DL.dMeth, DL.dFmt, DL.dJs, DL.look, DL.lookL, DL.frz, DL.frzL, DL.startD, DL.startT, DL.sSeq, DL.sIf, DL.sRet, DL.sRetNew, DL.sRetN, DL.sAsg, DL.sNew, DL.sDrop, DL.sNext, DL.sPar, DL.sFor, DL.dSet, DL.endsP, DL.endsN, DL.endsT, DL.endsTN, DL.SV.toD, DL.Cell.toD, DL.isTy_str, DL.ixD_lst, DL.ixD_tup, DL.ixD_str, DL.ixD_dKs, DL.ixD_dKi, DL.inG_dKs, DL.inG_sign, DL.eqG_int, DL.eqG_str, DL.eqG_bl, DL.addD_int, DL.addD_str, DL.addD_lst, DL.addD_tup, DL.intD_int, DL.cmpD_int, DL.cmpD_str, DL.negD, DL.isNG1, DL.isN, DL.isiG, DL.isD, DL.isAnyG, DL.isAny, DL.isInsG, DL.lenG_str, DL.lenG_lst, DL.lenG_tup, DL.lenG_dK, DL.lenG_scr, DL.intG_int, DL.intG_bl, DL.intG_str, DL.strG, DL.absG, DL.two, DL.listG2_dK, DL.listG2_lst, DL.listG2_tup, DL.listG2_scr, DL.tupleG_lst, DL.tupleG_tup, DL.allG, DL.dSlice, DL.dNo, DL.dPart, DL.cutD_str, DL.cutD_lst, DL.cutD_tup, DL.dGNil, DL.dGCons, DL.dTupT, DL.dIter, DL.dRange1, DL.dRange2, DL.atI_0, DL.atI_1, DL.atI_2, DL.atI_3, DL.atI_4, DL.hotAt, DL.putAt, DL.SV.put, DL.dAppend, DL.dExtend, DL.sStore, DL.storeD, DL.sFldD, DL.putFD, DL.dFld, DL.splitG, DL.partitionG, DL.startsG, DL.joinG, DL.dClear, List.getElem?_cons_zero, List.getElem?_cons_succ, List.set_cons_zero, List.set_cons_succ, List.length_cons, List.length_nil, List.map_cons, List.map_nil, List.replicate_succ, List.replicate_zero, List.nil_append, List.cons_append, Nat.reduceAdd, Nat.reduceSub, Bool.bne_false, Bool.bne_true, Bool.not_true, Bool.not_false, decide_eq_true_eq, Bool.false_eq_true, reduceIte, and_true, true_and, if_true, if_false, decide_true, decide_false]
  refine ⟨_, ⟨_, rfl, rfl⟩, ?_⟩
  simp only [DL.dVar, DL.dC, DL.dBin, DL.dUn, DL.dTest, DL.dIf, DL.dAnd, DL.dOr, DL.dNot, DL.dAndV, DL.dOrV, DL.dNotV, DL.dChain, DL.dNil, DL.dCons, DL.dTup, DL.dLst, DL.dDK, DL.dFz, DL.dCallL, DL.dCallP, DL.dCallN, DL.dCallT, DL.dCallTN, DL.dMake, DL.dProp, DL.dMeth, DL.dFmt, DL.dJs, DL.look, DL.lookL, DL.frz, DL.frzL, DL.startD, DL.startT, DL.sSeq, DL.sIf, DL.sRet, DL.sRetNew, DL.sRetN, DL.sAsg, DL.sNew, DL.sDrop, DL.sNext, DL.sPar, DL.sFor, DL.dSet, DL.endsP, DL.endsN, DL.endsT, DL.endsTN, DL.SV.toD, DL.Cell.toD, DL.isTy_str, DL.ixD_lst, DL.ixD_tup, DL.ixD_str, DL.ixD_dKs, DL.ixD_dKi, DL.inG_dKs, DL.inG_sign, DL.eqG_int, DL.eqG_str, DL.eqG_bl, DL.addD_int, DL.addD_str, DL.addD_lst, DL.addD_tup, DL.intD_int, DL.cmpD_int, DL.cmpD_str, DL.negD, DL.isNG1, DL.isN, DL.isiG, DL.isD, DL.isAnyG, DL.isAny, DL.isInsG, DL.lenG_str, DL.lenG_lst, DL.lenG_tup, DL.lenG_dK, DL.lenG_scr, DL.intG_int, DL.intG_bl, DL.intG_str, DL.strG, DL.absG, DL.two, DL.listG2_dK, DL.listG2_lst, DL.listG2_tup, DL.listG2_scr, DL.tupleG_lst, DL.tupleG_tup, DL.allG, DL.dSlice, DL.dNo, DL.dPart, DL.cutD_str, DL.cutD_lst, DL.cutD_tup, DL.dGNil, DL.dGCons, DL.dTupT, DL.dIter, DL.dRange1, DL.dRange2, DL.atI_0, DL.atI_1, DL.atI_2, DL.atI_3, DL.atI_4, DL.hotAt, DL.putAt, DL.SV.put, DL.dAppend, DL.dExtend, DL.sStore, DL.storeD, DL.sFldD, DL.putFD, DL.dFld, DL.splitG, DL.partitionG, DL.startsG, DL.joinG, DL.dClear, List.getElem?_cons_zero, List.getElem?_cons_succ, List.set_cons_zero, List.set_cons_succ, List.length_cons, List.length_nil, List.map_cons, List.map_nil, List.replicate_succ, List.replicate_zero, List.nil_append, List.cons_append, Nat.reduceAdd, Nat.reduceSub, Bool.bne_false, Bool.bne_true, Bool.not_true, Bool.not_false, decide_eq_true_eq, Bool.false_eq_true, reduceIte, and_true, true_and, if_true, if_false, decide_true, decide_false]
  rw [if_neg (by omega)]
  refine ⟨_, ⟨a.natAbs, b.natAbs, ?_, rfl⟩, ?_⟩
  · have e1 : (if a < 0 then -a else a) = (a.natAbs : Int) := by split <;> omega
    have e2 : b = (b.natAbs : Int) := by omega
    rw [e1, ← e2]
  · have e : ((Nat.gcd a.natAbs b.natAbs : Nat) : Int) = 1 := by
      have : Int.gcd a b = Nat.gcd a.natAbs b.natAbs := rfl
      rw [← this, h4]; rfl
    simp only [DL.dVar, DL.dC, DL.dBin, DL.dUn, DL.dTest, DL.dIf, DL.dAnd, DL.dOr, DL.dNot, DL.dAndV, DL.dOrV, DL.dNotV, DL.dChain, DL.dNil, DL.dCons, DL.dTup, DL.dLst, DL.dDK, DL.dFz, DL.dCallL, DL.dCallP, DL.dCallN, DL.dCallT, DL.dCallTN, DL.dMake, DL.dProp, DL.dMeth, DL.dFmt, DL.dJs, DL.look, DL.lookL, DL.frz, DL.frzL, DL.startD, DL.startT, DL.sSeq, DL.sIf, DL.sRet, DL.sRetNew, DL.sRetN, DL.sAsg, DL.sNew, DL.sDrop, DL.sNext, DL.sPar, DL.sFor, DL.dSet, DL.endsP, DL.endsN, DL.endsT, DL.endsTN, DL.SV.toD, DL.Cell.toD, DL.isTy_str, DL.ixD_lst, DL.ixD_tup, DL.ixD_str, DL.ixD_dKs, DL.ixD_dKi, DL.inG_dKs, DL.inG_sign, DL.eqG_int, DL.eqG_str, DL.eqG_bl, DL.addD_int, DL.addD_str, DL.addD_lst, DL.addD_tup, DL.intD_int, DL.cmpD_int, DL.cmpD_str, DL.negD, DL.isNG1, DL.isN, DL.isiG, DL.isD, DL.isAnyG, DL.isAny, DL.isInsG, DL.lenG_str, DL.lenG_lst, DL.lenG_tup, DL.lenG_dK, DL.lenG_scr, DL.intG_int, DL.intG_bl, DL.intG_str, DL.strG, DL.absG, DL.two, DL.listG2_dK, DL.listG2_lst, DL.listG2_tup, DL.listG2_scr, DL.tupleG_lst, DL.tupleG_tup, DL.allG, DL.dSlice, DL.dNo, DL.dPart, DL.cutD_str, DL.cutD_lst, DL.cutD_tup, DL.dGNil, DL.dGCons, DL.dTupT, DL.dIter, DL.dRange1, DL.dRange2, DL.atI_0, DL.atI_1, DL.atI_2, DL.atI_3, DL.atI_4, DL.hotAt, DL.putAt, DL.SV.put, DL.dAppend, DL.dExtend, DL.sStore, DL.storeD, DL.sFldD, DL.putFD, DL.dFld, DL.splitG, DL.partitionG, DL.startsG, DL.joinG, DL.dClear, List.getElem?_cons_zero, List.getElem?_cons_succ, List.set_cons_zero, List.set_cons_succ, List.length_cons, List.length_nil, List.map_cons, List.map_nil, List.replicate_succ, List.replicate_zero, List.nil_append, List.cons_append, Nat.reduceAdd, Nat.reduceSub, Bool.bne_false, Bool.bne_true, Bool.not_true, Bool.not_false, decide_eq_true_eq, Bool.false_eq_true, reduceIte, and_true, true_and, if_true, if_false, decide_true, decide_false, e]
theorem gcd_loop {D' : DEnds} : ∀ (n a b : Nat), b ≤ n → D'.nx [some (.imm (.int (Nat.gcd a b))), some (.imm (.int (0 : Nat)))] → 
    whileGo (dTest (dBin (eqG true) (dVar 1) (dC (.int 0)))) (sPar 0 1 (dVar 1) (dBin modD (dCallL intG (dCons (dVar 0) dNil)) (dVar 1))) (n + 1) D' [some (.imm (.int a)), some (.imm (.int b))] := by
  intro n
  induction n with
  | zero =>
    intro a b hb h
    have : b = 0 := by omega
    subst this
    unfold whileGo
    simp only [DL.dVar, DL.dC, DL.dBin, DL.dUn, DL.dTest, DL.dIf, DL.dAnd, DL.dOr, DL.dNot, DL.dAndV, DL.dOrV, DL.dNotV, DL.dChain, DL.dNil, DL.dCons, DL.dTup, DL.dLst, DL.dDK, DL.dFz, DL.dCallL, DL.dCallP, DL.dCallN, DL.dCallT, DL.dCallTN, DL.dMake, DL.dProp, DL.dMeth, DL.dFmt, DL.dJs, DL.look, DL.lookL, DL.frz, DL.frzL, DL.startD, DL.startT, DL.sSeq, DL.sIf, DL.sRet, DL.sRetNew, DL.sRetN, DL.sAsg, DL.sNew, DL.sDrop, DL.sNext, DL.sPar, DL.sFor, DL.dSet, DL.endsP, DL.endsN, DL.endsT, DL.endsTN, DL.SV.toD, DL.Cell.toD, DL.isTy_str, DL.ixD_lst, DL.ixD_tup, DL.ixD_str, DL.ixD_dKs, DL.ixD_dKi, DL.inG_dKs, DL.inG_sign, DL.eqG_int, DL.eqG_str, DL.eqG_bl, DL.addD_int, DL.addD_str, DL.addD_lst, DL.addD_tup, DL.intD_int, DL.cmpD_int, DL.cmpD_str, DL.negD, DL.isNG1, DL.isN, DL.isiG, DL.isD, DL.isAnyG, DL.isAny, DL.isInsG, DL.lenG_str, DL.lenG_lst, DL.lenG_tup, DL.lenG_dK, DL.lenG_scr, DL.intG_int, DL.intG_bl, DL.intG_str, DL.strG, DL.absG, DL.two, DL.listG2_dK, DL.listG2_lst, DL.listG2_tup, DL.listG2_scr, DL.tupleG_lst, DL.tupleG_tup, DL.allG, DL.dSlice, DL.dNo, DL.dPart, DL.cutD_str, DL.cutD_lst, DL.cutD_tup, DL.dGNil, DL.dGCons, DL.dTupT, DL.dIter, DL.dRange1, DL.dRange2, DL.atI_0, DL.atI_1, DL.atI_2, DL.atI_3, DL.atI_4, DL.hotAt, DL.putAt, DL.SV.put, DL.dAppend, DL.dExtend, DL.sStore, DL.storeD, DL.sFldD, DL.putFD, DL.dFld, DL.splitG, DL.partitionG, DL.startsG, DL.joinG, DL.dClear, List.getElem?_cons_zero, List.getElem?_cons_succ, List.set_cons_zero, List.set_cons_succ, List.length_cons, List.length_nil, List.map_cons, List.map_nil, List.replicate_succ, List.replicate_zero, List.nil_append, List.cons_append, Nat.reduceAdd, Nat.reduceSub, Bool.bne_false, Bool.bne_true, Bool.not_true, Bool.not_false, decide_eq_true_eq, Bool.false_eq_true, reduceIte, and_true, true_and, if_true, if_false, decide_true, decide_false]
    simpa using h
  | succ n ih =>
    intro a b hb h
    unfold whileGo
    simp only [DL.dVar, DL.dC, DL.dBin, DL.dUn, DL.dTest, DL.dIf, DL.dAnd, DL.dOr, DL.dNot, DL.dAndV, DL.dOrV, DL.dNotV, DL.dChain, DL.dNil, DL.dCons, DL.dTup, DL.dLst, DL.dDK, DL.dFz, DL.dCallL, DL.dCallP, DL.dCallN, DL.dCallT, DL.dCallTN, DL.dMake, DL.dProp, DL.dMeth, DL.dFmt, DL.dJs, DL.look, DL.lookL, DL.frz, DL.frzL, DL.startD, DL.startT, DL.sSeq, DL.sIf, DL.sRet, DL.sRetNew, DL.sRetN, DL.sAsg, DL.sNew, DL.sDrop, DL.sNext, DL.sPar, DL.sFor, DL.dSet, DL.endsP, DL.endsN, DL.endsT, DL.endsTN, DL.SV.toD, DL.Cell.toD, DL.isTy_str, DL.ixD_lst, DL.ixD_tup, DL.ixD_str, DL.ixD_dKs, DL.ixD_dKi, DL.inG_dKs, DL.inG_sign, DL.eqG_int, DL.eqG_str, DL.eqG_bl, DL.addD_int, DL.addD_str, DL.addD_lst, DL.addD_tup, DL.intD_int, DL.cmpD_int, DL.cmpD_str, DL.negD, DL.isNG1, DL.isN, DL.isiG, DL.isD, DL.isAnyG, DL.isAny, DL.isInsG, DL.lenG_str, DL.lenG_lst, DL.lenG_tup, DL.lenG_dK, DL.lenG_scr, DL.intG_int, DL.intG_bl, DL.intG_str, DL.strG, DL.absG, DL.two, DL.listG2_dK, DL.listG2_lst, DL.listG2_tup, DL.listG2_scr, DL.tupleG_lst, DL.tupleG_tup, DL.allG, DL.dSlice, DL.dNo, DL.dPart, DL.cutD_str, DL.cutD_lst, DL.cutD_tup, DL.dGNil, DL.dGCons, DL.dTupT, DL.dIter, DL.dRange1, DL.dRange2, DL.atI_0, DL.atI_1, DL.atI_2, DL.atI_3, DL.atI_4, DL.hotAt, DL.putAt, DL.SV.put, DL.dAppend, DL.dExtend, DL.sStore, DL.storeD, DL.sFldD, DL.putFD, DL.dFld, DL.splitG, DL.partitionG, DL.startsG, DL.joinG, DL.dClear, List.getElem?_cons_zero, List.getElem?_cons_succ, List.set_cons_zero, List.set_cons_succ, List.length_cons, List.length_nil, List.map_cons, List.map_nil, List.replicate_succ, List.replicate_zero, List.nil_append, List.cons_append, Nat.reduceAdd, Nat.reduceSub, Bool.bne_false, Bool.bne_true, Bool.not_true, Bool.not_false, decide_eq_true_eq, Bool.false_eq_true, reduceIte, and_true, true_and, if_true, if_false, decide_true, decide_false]
    by_cases z : b = 0
    · subst z
      simpa using h
    · have z' : ¬ ((b : Int) = 0) := by omega
      rw [decide_eq_false z']
      simp only [DL.dVar, DL.dC, DL.dBin, DL.dUn, DL.dTest, DL.dIf, DL.dAnd, DL.dOr, DL.dNot, DL.dAndV, DL.dOrV, DL.dNotV, DL.dChain, DL.dNil, DL.dCons, DL.dTup, DL.dLst, DL.dDK, DL.dFz, DL.dCallL, DL.dCallP, DL.dCallN, DL.dCallT, DL.dCallTN, DL.dMake, DL.dProp, DL.dMeth, DL.dFmt, DL.dJs, DL.look, DL.lookL, DL.frz, DL.frzL, DL.startD, DL.startT, DL.sSeq, DL.sIf, DL.sRet, DL.sRetNew, DL.sRetN, DL.sAsg, DL.sNew, DL.sDrop, DL.sNext, DL.sPar, DL.sFor, DL.dSet, DL.endsP, DL.endsN, DL.endsT, DL.endsTN, DL.SV.toD, DL.Cell.toD, DL.isTy_str, DL.ixD_lst, DL.ixD_tup, DL.ixD_str, DL.ixD_dKs, DL.ixD_dKi, DL.inG_dKs, DL.inG_sign, DL.eqG_int, DL.eqG_str, DL.eqG_bl, DL.addD_int, DL.addD_str, DL.addD_lst, DL.addD_tup, DL.intD_int, DL.cmpD_int, DL.cmpD_str, DL.negD, DL.isNG1, DL.isN, DL.isiG, DL.isD, DL.isAnyG, DL.isAny, DL.isInsG, DL.lenG_str, DL.lenG_lst, DL.lenG_tup, DL.lenG_dK, DL.lenG_scr, DL.intG_int, DL.intG_bl, DL.intG_str, DL.strG, DL.absG, DL.two, DL.listG2_dK, DL.listG2_lst, DL.listG2_tup, DL.listG2_scr, DL.tupleG_lst, DL.tupleG_tup, DL.allG, DL.dSlice, DL.dNo, DL.dPart, DL.cutD_str, DL.cutD_lst, DL.cutD_tup, DL.dGNil, DL.dGCons, DL.dTupT, DL.dIter, DL.dRange1, DL.dRange2, DL.atI_0, DL.atI_1, DL.atI_2, DL.atI_3, DL.atI_4, DL.hotAt, DL.putAt, DL.SV.put, DL.dAppend, DL.dExtend, DL.sStore, DL.storeD, DL.sFldD, DL.putFD, DL.dFld, DL.splitG, DL.partitionG, DL.startsG, DL.joinG, DL.dClear, List.getElem?_cons_zero, List.getElem?_cons_succ, List.set_cons_zero, List.set_cons_succ, List.length_cons, List.length_nil, List.map_cons, List.map_nil, List.replicate_succ, List.replicate_zero, List.nil_append, List.cons_append, Nat.reduceAdd, Nat.reduceSub, Bool.bne_false, Bool.bne_true, Bool.not_true, Bool.not_false, decide_eq_true_eq, Bool.false_eq_true, reduceIte, and_true, true_and, if_true, if_false, decide_true, decide_false]
      refine ⟨by omega, ?_⟩
      have e : ((a : Int) % (b : Int)) = ((a % b : Nat) : Int) := rfl
      rw [e]
      refine ih b (a % b) (by have := Nat.mod_lt a (Nat.pos_of_ne_zero z); omega) ?_
      rw [Nat.gcd_comm a b, Nat.gcd_rec b a, Nat.gcd_comm] at h
      exact h
theorem h_common_divisor : ∀ ds r, M_common_divisor ds r → t_common_divisor (endsP r) (startD N_common_divisor.length ds) := by
  rintro _ _ ⟨a, b, rfl, rfl⟩
  simp only [DL.dVar, DL.dC, DL.dBin, DL.dUn, DL.dTest, DL.dIf, DL.dAnd, DL.dOr, DL.dNot, DL.dAndV, DL.dOrV, DL.dNotV, DL.dChain, DL.dNil, DL.dCons, DL.dTup, DL.dLst, DL.dDK, DL.dFz, DL.dCallL, DL.dCallP, DL.dCallN, DL.dCallT, DL.dCallTN, DL.dMake, DL.dProp, DL.dMeth, DL.dFmt, DL.dJs, DL.look, DL.lookL, DL.frz, DL.frzL, DL.startD, DL.startT, DL.sSeq, DL.sIf, DL.sRet, DL.sRetNew, DL.sRetN, DL.sAsg, DL.sNew, DL.sDrop, DL.sNext, DL.sPar, DL.sFor, DL.dSet, DL.endsP, DL.endsN, DL.endsT, DL.endsTN, DL.SV.toD, DL.Cell.toD, DL.isTy_str, DL.ixD_lst, DL.ixD_tup, DL.ixD_str, DL.ixD_dKs, DL.ixD_dKi, DL.inG_dKs, DL.inG_sign, DL.eqG_int, DL.eqG_str, DL.eqG_bl, DL.addD_int, DL.addD_str, DL.addD_lst, DL.addD_tup, DL.intD_int, DL.cmpD_int, DL.cmpD_str, DL.negD, DL.isNG1, DL.isN, DL.isiG, DL.isD, DL.isAnyG, DL.isAny, DL.isInsG, DL.lenG_str, DL.lenG_lst, DL.lenG_tup, DL.lenG_dK, DL.lenG_scr, DL.intG_int, DL.intG_bl, DL.intG_str, DL.strG, DL.absG, DL.two, DL.listG2_dK, DL.listG2_lst, DL.listG2_tup, DL.listG2_scr, DL.tupleG_lst, DL.tupleG_tup, DL.allG, DL.dSlice, DL.dNo, DL.dPart, DL.cutD_str, DL.cutD_lst, DL.cutD_tup, DL.dGNil, DL.dGCons, DL.dTupT, DL.dIter, DL.dRange1, DL.dRange2, DL.atI_0, DL.atI_1, DL.atI_2, DL.atI_3, DL.atI_4, DL.hotAt, DL.putAt, DL.SV.put, DL.dAppend, DL.dExtend, DL.sStore, DL.storeD, DL.sFldD, DL.putFD, DL.dFld, DL.splitG, DL.partitionG, DL.startsG, DL.joinG, DL.dClear, List.getElem?_cons_zero, List.getElem?_cons_succ, List.set_cons_zero, List.set_cons_succ, List.length_cons, List.length_nil, List.map_cons, List.map_nil, List.replicate_succ, List.replicate_zero, List.nil_append, List.cons_append, Nat.reduceAdd, Nat.reduceSub, Bool.bne_false, Bool.bne_true, Bool.not_true, Bool.not_false, decide_eq_true_eq, Bool.false_eq_true, reduceIte, and_true, true_and, if_true, if_false, decide_true, decide_false, t_common_divisor, sWhile]
  refine ⟨b + 1, gcd_loop b a b (Nat.le_refl _) ?_⟩
  simp only [DL.dVar, DL.dC, DL.dBin, DL.dUn, DL.dTest, DL.dIf, DL.dAnd, DL.dOr, DL.dNot, DL.dAndV, DL.dOrV, DL.dNotV, DL.dChain, DL.dNil, DL.dCons, DL.dTup, DL.dLst, DL.dDK, DL.dFz, DL.dCallL, DL.dCallP, DL.dCallN, DL.dCallT, DL.dCallTN, DL.dMake, DL.dProp, DL.dMeth, DL.dFmt, DL.dJs, DL.look, DL.lookL, DL.frz, DL.frzL, DL.startD, DL.startT, DL.sSeq, DL.sIf, DL.sRet, DL.sRetNew, DL.sRetN, DL.sAsg, DL.sNew, DL.sDrop, DL.sNext, DL.sPar, DL.sFor, DL.dSet, DL.endsP, DL.endsN, DL.endsT, DL.endsTN, DL.SV.toD, DL.Cell.toD, DL.isTy_str, DL.ixD_lst, DL.ixD_tup, DL.ixD_str, DL.ixD_dKs, DL.ixD_dKi, DL.inG_dKs, DL.inG_sign, DL.eqG_int, DL.eqG_str, DL.eqG_bl, DL.addD_int, DL.addD_str, DL.addD_lst, DL.addD_tup, DL.intD_int, DL.cmpD_int, DL.cmpD_str, DL.negD, DL.isNG1, DL.isN, DL.isiG, DL.isD, DL.isAnyG, DL.isAny, DL.isInsG, DL.lenG_str, DL.lenG_lst, DL.lenG_tup, DL.lenG_dK, DL.lenG_scr, DL.intG_int, DL.intG_bl, DL.intG_str, DL.strG, DL.absG, DL.two, DL.listG2_dK, DL.listG2_lst, DL.listG2_tup, DL.listG2_scr, DL.tupleG_lst, DL.tupleG_tup, DL.allG, DL.dSlice, DL.dNo, DL.dPart, DL.cutD_str, DL.cutD_lst, DL.cutD_tup, DL.dGNil, DL.dGCons, DL.dTupT, DL.dIter, DL.dRange1, DL.dRange2, DL.atI_0, DL.atI_1, DL.atI_2, DL.atI_3, DL.atI_4, DL.hotAt, DL.putAt, DL.SV.put, DL.dAppend, DL.dExtend, DL.sStore, DL.storeD, DL.sFldD, DL.putFD, DL.dFld, DL.splitG, DL.partitionG, DL.startsG, DL.joinG, DL.dClear, List.getElem?_cons_zero, List.getElem?_cons_succ, List.set_cons_zero, List.set_cons_succ, List.length_cons, List.length_nil, List.map_cons, List.map_nil, List.replicate_succ, List.replicate_zero, List.nil_append, List.cons_append, Nat.reduceAdd, Nat.reduceSub, Bool.bne_false, Bool.bne_true, Bool.not_true, Bool.not_false, decide_eq_true_eq, Bool.false_eq_true, reduceIte, and_true, true_and, if_true, if_false, decide_true, decide_false]
theorem signs_loop {y : Str} {D' : DEnds} {x : Str} : ∀ (l : List Nat) (v : Option SV), 
    ((∀ c ∈ l, c ∈ tl y) → ∀ v, D'.nx [some (.imm (.str x)), some (.imm (.str y)), v]) → (¬ (∀ c ∈ l, c ∈ tl y) → ∀ ρ, D'.rt (.imm (.bl false)) ρ) →
    forGo (dSet 2) (sIf (dTest (dBin (inG NW true) (dVar 2) (dVar 1))) (sRet (dC (.bl false))) sNext) (l.map fun c => .str ⟨#[c]⟩) D' [some (.imm (.str x)), some (.imm (.str y)), v] := by
  intro l
  induction l with
  | nil => intro v h _; exact h (fun c hc => nomatch hc) v
  | cons c l ih =>
    intro v h h'
    simp only [List.map_cons]
    unfold forGo
    simp only [DL.dVar, DL.dC, DL.dBin, DL.dUn, DL.dTest, DL.dIf, DL.dAnd, DL.dOr, DL.dNot, DL.dAndV, DL.dOrV, DL.dNotV, DL.dChain, DL.dNil, DL.dCons, DL.dTup, DL.dLst, DL.dDK, DL.dFz, DL.dCallL, DL.dCallP, DL.dCallN, DL.dCallT, DL.dCallTN, DL.dMake, DL.dProp, DL.dMeth, DL.dFmt, DL.dJs, DL.look, DL.lookL, DL.frz, DL.frzL, DL.startD, DL.startT, DL.sSeq, DL.sIf, DL.sRet, DL.sRetNew, DL.sRetN, DL.sAsg, DL.sNew, DL.sDrop, DL.sNext, DL.sPar, DL.sFor, DL.dSet, DL.endsP, DL.endsN, DL.endsT, DL.endsTN, DL.SV.toD, DL.Cell.toD, DL.isTy_str, DL.ixD_lst, DL.ixD_tup, DL.ixD_str, DL.ixD_dKs, DL.ixD_dKi, DL.inG_dKs, DL.inG_sign, DL.eqG_int, DL.eqG_str, DL.eqG_bl, DL.addD_int, DL.addD_str, DL.addD_lst, DL.addD_tup, DL.intD_int, DL.cmpD_int, DL.cmpD_str, DL.negD, DL.isNG1, DL.isN, DL.isiG, DL.isD, DL.isAnyG, DL.isAny, DL.isInsG, DL.lenG_str, DL.lenG_lst, DL.lenG_tup, DL.lenG_dK, DL.lenG_scr, DL.intG_int, DL.intG_bl, DL.intG_str, DL.strG, DL.absG, DL.two, DL.listG2_dK, DL.listG2_lst, DL.listG2_tup, DL.listG2_scr, DL.tupleG_lst, DL.tupleG_tup, DL.allG, DL.dSlice, DL.dNo, DL.dPart, DL.cutD_str, DL.cutD_lst, DL.cutD_tup, DL.dGNil, DL.dGCons, DL.dTupT, DL.dIter, DL.dRange1, DL.dRange2, DL.atI_0, DL.atI_1, DL.atI_2, DL.atI_3, DL.atI_4, DL.hotAt, DL.putAt, DL.SV.put, DL.dAppend, DL.dExtend, DL.sStore, DL.storeD, DL.sFldD, DL.putFD, DL.dFld, DL.splitG, DL.partitionG, DL.startsG, DL.joinG, DL.dClear, List.getElem?_cons_zero, List.getElem?_cons_succ, List.set_cons_zero, List.set_cons_succ, List.length_cons, List.length_nil, List.map_cons, List.map_nil, List.replicate_succ, List.replicate_zero, List.nil_append, List.cons_append, Nat.reduceAdd, Nat.reduceSub, Bool.bne_false, Bool.bne_true, Bool.not_true, Bool.not_false, decide_eq_true_eq, Bool.false_eq_true, reduceIte, and_true, true_and, if_true, if_false, decide_true, decide_false]
    by_cases z : c ∈ y.cps.toList
    · rw [decide_eq_true z]
      simp only [DL.dVar, DL.dC, DL.dBin, DL.dUn, DL.dTest, DL.dIf, DL.dAnd, DL.dOr, DL.dNot, DL.dAndV, DL.dOrV, DL.dNotV, DL.dChain, DL.dNil, DL.dCons, DL.dTup, DL.dLst, DL.dDK, DL.dFz, DL.dCallL, DL.dCallP, DL.dCallN, DL.dCallT, DL.dCallTN, DL.dMake, DL.dProp, DL.dMeth, DL.dFmt, DL.dJs, DL.look, DL.lookL, DL.frz, DL.frzL, DL.startD, DL.startT, DL.sSeq, DL.sIf, DL.sRet, DL.sRetNew, DL.sRetN, DL.sAsg, DL.sNew, DL.sDrop, DL.sNext, DL.sPar, DL.sFor, DL.dSet, DL.endsP, DL.endsN, DL.endsT, DL.endsTN, DL.SV.toD, DL.Cell.toD, DL.isTy_str, DL.ixD_lst, DL.ixD_tup, DL.ixD_str, DL.ixD_dKs, DL.ixD_dKi, DL.inG_dKs, DL.inG_sign, DL.eqG_int, DL.eqG_str, DL.eqG_bl, DL.addD_int, DL.addD_str, DL.addD_lst, DL.addD_tup, DL.intD_int, DL.cmpD_int, DL.cmpD_str, DL.negD, DL.isNG1, DL.isN, DL.isiG, DL.isD, DL.isAnyG, DL.isAny, DL.isInsG, DL.lenG_str, DL.lenG_lst, DL.lenG_tup, DL.lenG_dK, DL.lenG_scr, DL.intG_int, DL.intG_bl, DL.intG_str, DL.strG, DL.absG, DL.two, DL.listG2_dK, DL.listG2_lst, DL.listG2_tup, DL.listG2_scr, DL.tupleG_lst, DL.tupleG_tup, DL.allG, DL.dSlice, DL.dNo, DL.dPart, DL.cutD_str, DL.cutD_lst, DL.cutD_tup, DL.dGNil, DL.dGCons, DL.dTupT, DL.dIter, DL.dRange1, DL.dRange2, DL.atI_0, DL.atI_1, DL.atI_2, DL.atI_3, DL.atI_4, DL.hotAt, DL.putAt, DL.SV.put, DL.dAppend, DL.dExtend, DL.sStore, DL.storeD, DL.sFldD, DL.putFD, DL.dFld, DL.splitG, DL.partitionG, DL.startsG, DL.joinG, DL.dClear, List.getElem?_cons_zero, List.getElem?_cons_succ, List.set_cons_zero, List.set_cons_succ, List.length_cons, List.length_nil, List.map_cons, List.map_nil, List.replicate_succ, List.replicate_zero, List.nil_append, List.cons_append, Nat.reduceAdd, Nat.reduceSub, Bool.bne_false, Bool.bne_true, Bool.not_true, Bool.not_false, decide_eq_true_eq, Bool.false_eq_true, reduceIte, and_true, true_and, if_true, if_false, decide_true, decide_false]
      refine ih _ (fun q => h fun d hd => ?_) (fun q => h' fun w => q fun d hd => w d (List.mem_cons_of_mem _ hd))
      rcases List.mem_cons.mp hd with e | e
      · subst e; exact z
      · exact q d e
    · rw [decide_eq_false z]
      simp only [DL.dVar, DL.dC, DL.dBin, DL.dUn, DL.dTest, DL.dIf, DL.dAnd, DL.dOr, DL.dNot, DL.dAndV, DL.dOrV, DL.dNotV, DL.dChain, DL.dNil, DL.dCons, DL.dTup, DL.dLst, DL.dDK, DL.dFz, DL.dCallL, DL.dCallP, DL.dCallN, DL.dCallT, DL.dCallTN, DL.dMake, DL.dProp, DL.dMeth, DL.dFmt, DL.dJs, DL.look, DL.lookL, DL.frz, DL.frzL, DL.startD, DL.startT, DL.sSeq, DL.sIf, DL.sRet, DL.sRetNew, DL.sRetN, DL.sAsg, DL.sNew, DL.sDrop, DL.sNext, DL.sPar, DL.sFor, DL.dSet, DL.endsP, DL.endsN, DL.endsT, DL.endsTN, DL.SV.toD, DL.Cell.toD, DL.isTy_str, DL.ixD_lst, DL.ixD_tup, DL.ixD_str, DL.ixD_dKs, DL.ixD_dKi, DL.inG_dKs, DL.inG_sign, DL.eqG_int, DL.eqG_str, DL.eqG_bl, DL.addD_int, DL.addD_str, DL.addD_lst, DL.addD_tup, DL.intD_int, DL.cmpD_int, DL.cmpD_str, DL.negD, DL.isNG1, DL.isN, DL.isiG, DL.isD, DL.isAnyG, DL.isAny, DL.isInsG, DL.lenG_str, DL.lenG_lst, DL.lenG_tup, DL.lenG_dK, DL.lenG_scr, DL.intG_int, DL.intG_bl, DL.intG_str, DL.strG, DL.absG, DL.two, DL.listG2_dK, DL.listG2_lst, DL.listG2_tup, DL.listG2_scr, DL.tupleG_lst, DL.tupleG_tup, DL.allG, DL.dSlice, DL.dNo, DL.dPart, DL.cutD_str, DL.cutD_lst, DL.cutD_tup, DL.dGNil, DL.dGCons, DL.dTupT, DL.dIter, DL.dRange1, DL.dRange2, DL.atI_0, DL.atI_1, DL.atI_2, DL.atI_3, DL.atI_4, DL.hotAt, DL.putAt, DL.SV.put, DL.dAppend, DL.dExtend, DL.sStore, DL.storeD, DL.sFldD, DL.putFD, DL.dFld, DL.splitG, DL.partitionG, DL.startsG, DL.joinG, DL.dClear, List.getElem?_cons_zero, List.getElem?_cons_succ, List.set_cons_zero, List.set_cons_succ, List.length_cons, List.length_nil, List.map_cons, List.map_nil, List.replicate_succ, List.replicate_zero, List.nil_append, List.cons_append, Nat.reduceAdd, Nat.reduceSub, Bool.bne_false, Bool.bne_true, Bool.not_true, Bool.not_false, decide_eq_true_eq, Bool.false_eq_true, reduceIte, and_true, true_and, if_true, if_false, decide_true, decide_false]
      exact h' (fun w => z (w c List.mem_cons_self)) _
theorem h_is_string_of : ∀ ds r, M_is_string_of ds r → t_is_string_of (endsP r) (startD N_is_string_of.length ds) := by
  rintro _ _ ⟨x, y, rfl, rfl⟩
  simp only [DL.dVar, DL.dC, DL.dBin, DL.dUn, DL.dTest, DL.dIf, DL.dAnd, DL.dOr, DL.dNot, DL.dAndV, DL.dOrV, DL.dNotV, DL.dChain, DL.dNil, DL.dCons, DL.dTup, DL.dLst, DL.dDK, DL.dFz, DL.dCallL, DL.dCallP, DL.dCallN, DL.dCallT, DL.dCallTN, DL.dMake, DL.dProp, DL.dMeth, DL.dFmt, DL.dJs, DL.look, DL.lookL, DL.frz, DL.frzL, DL.startD, DL.startT, DL.sSeq, DL.sIf, DL.sRet, DL.sRetNew, DL.sRetN, DL.sAsg, DL.sNew, DL.sDrop, DL.sNext, DL.sPar, DL.sFor, DL.dSet, DL.endsP, DL.endsN, DL.endsT, DL.endsTN, DL.SV.toD, DL.Cell.toD, DL.isTy_str, DL.ixD_lst, DL.ixD_tup, DL.ixD_str, DL.ixD_dKs, DL.ixD_dKi, DL.inG_dKs, DL.inG_sign, DL.eqG_int, DL.eqG_str, DL.eqG_bl, DL.addD_int, DL.addD_str, DL.addD_lst, DL.addD_tup, DL.intD_int, DL.cmpD_int, DL.cmpD_str, DL.negD, DL.isNG1, DL.isN, DL.isiG, DL.isD, DL.isAnyG, DL.isAny, DL.isInsG, DL.lenG_str, DL.lenG_lst, DL.lenG_tup, DL.lenG_dK, DL.lenG_scr, DL.intG_int, DL.intG_bl, DL.intG_str, DL.strG, DL.absG, DL.two, DL.listG2_dK, DL.listG2_lst, DL.listG2_tup, DL.listG2_scr, DL.tupleG_lst, DL.tupleG_tup, DL.allG, DL.dSlice, DL.dNo, DL.dPart, DL.cutD_str, DL.cutD_lst, DL.cutD_tup, DL.dGNil, DL.dGCons, DL.dTupT, DL.dIter, DL.dRange1, DL.dRange2, DL.atI_0, DL.atI_1, DL.atI_2, DL.atI_3, DL.atI_4, DL.hotAt, DL.putAt, DL.SV.put, DL.dAppend, DL.dExtend, DL.sStore, DL.storeD, DL.sFldD, DL.putFD, DL.dFld, DL.splitG, DL.partitionG, DL.startsG, DL.joinG, DL.dClear, List.getElem?_cons_zero, List.getElem?_cons_succ, List.set_cons_zero, List.set_cons_succ, List.length_cons, List.length_nil, List.map_cons, List.map_nil, List.replicate_succ, List.replicate_zero, List.nil_append, List.cons_append, Nat.reduceAdd, Nat.reduceSub, Bool.bne_false, Bool.bne_true, Bool.not_true, Bool.not_false, decide_eq_true_eq, Bool.false_eq_true, reduceIte, and_true, true_and, if_true, if_false, decide_true, decide_false, t_is_string_of, DL.signs]
  refine signs_loop _ _ (fun h v => ?_) fun h ρ => ?_
  · simp only [DL.dVar, DL.dC, DL.dBin, DL.dUn, DL.dTest, DL.dIf, DL.dAnd, DL.dOr, DL.dNot, DL.dAndV, DL.dOrV, DL.dNotV, DL.dChain, DL.dNil, DL.dCons, DL.dTup, DL.dLst, DL.dDK, DL.dFz, DL.dCallL, DL.dCallP, DL.dCallN, DL.dCallT, DL.dCallTN, DL.dMake, DL.dProp, DL.dMeth, DL.dFmt, DL.dJs, DL.look, DL.lookL, DL.frz, DL.frzL, DL.startD, DL.startT, DL.sSeq, DL.sIf, DL.sRet, DL.sRetNew, DL.sRetN, DL.sAsg, DL.sNew, DL.sDrop, DL.sNext, DL.sPar, DL.sFor, DL.dSet, DL.endsP, DL.endsN, DL.endsT, DL.endsTN, DL.SV.toD, DL.Cell.toD, DL.isTy_str, DL.ixD_lst, DL.ixD_tup, DL.ixD_str, DL.ixD_dKs, DL.ixD_dKi, DL.inG_dKs, DL.inG_sign, DL.eqG_int, DL.eqG_str, DL.eqG_bl, DL.addD_int, DL.addD_str, DL.addD_lst, DL.addD_tup, DL.intD_int, DL.cmpD_int, DL.cmpD_str, DL.negD, DL.isNG1, DL.isN, DL.isiG, DL.isD, DL.isAnyG, DL.isAny, DL.isInsG, DL.lenG_str, DL.lenG_lst, DL.lenG_tup, DL.lenG_dK, DL.lenG_scr, DL.intG_int, DL.intG_bl, DL.intG_str, DL.strG, DL.absG, DL.two, DL.listG2_dK, DL.listG2_lst, DL.listG2_tup, DL.listG2_scr, DL.tupleG_lst, DL.tupleG_tup, DL.allG, DL.dSlice, DL.dNo, DL.dPart, DL.cutD_str, DL.cutD_lst, DL.cutD_tup, DL.dGNil, DL.dGCons, DL.dTupT, DL.dIter, DL.dRange1, DL.dRange2, DL.atI_0, DL.atI_1, DL.atI_2, DL.atI_3, DL.atI_4, DL.hotAt, DL.putAt, DL.SV.put, DL.dAppend, DL.dExtend, DL.sStore, DL.storeD, DL.sFldD, DL.putFD, DL.dFld, DL.splitG, DL.partitionG, DL.startsG, DL.joinG, DL.dClear, List.getElem?_cons_zero, List.getElem?_cons_succ, List.set_cons_zero, List.set_cons_succ, List.length_cons, List.length_nil, List.map_cons, List.map_nil, List.replicate_succ, List.replicate_zero, List.nil_append, List.cons_append, Nat.reduceAdd, Nat.reduceSub, Bool.bne_false, Bool.bne_true, Bool.not_true, Bool.not_false, decide_eq_true_eq, Bool.false_eq_true, reduceIte, and_true, true_and, if_true, if_false, decide_true, decide_false]
    rw [decide_eq_true h]
  · simp only [DL.dVar, DL.dC, DL.dBin, DL.dUn, DL.dTest, DL.dIf, DL.dAnd, DL.dOr, DL.dNot, DL.dAndV, DL.dOrV, DL.dNotV, DL.dChain, DL.dNil, DL.dCons, DL.dTup, DL.dLst, DL.dDK, DL.dFz, DL.dCallL, DL.dCallP, DL.dCallN, DL.dCallT, DL.dCallTN, DL.dMake, DL.dProp, DL.dMeth, DL.dFmt, DL.dJs, DL.look, DL.lookL, DL.frz, DL.frzL, DL.startD, DL.startT, DL.sSeq, DL.sIf, DL.sRet, DL.sRetNew, DL.sRetN, DL.sAsg, DL.sNew, DL.sDrop, DL.sNext, DL.sPar, DL.sFor, DL.dSet, DL.endsP, DL.endsN, DL.endsT, DL.endsTN, DL.SV.toD, DL.Cell.toD, DL.isTy_str, DL.ixD_lst, DL.ixD_tup, DL.ixD_str, DL.ixD_dKs, DL.ixD_dKi, DL.inG_dKs, DL.inG_sign, DL.eqG_int, DL.eqG_str, DL.eqG_bl, DL.addD_int, DL.addD_str, DL.addD_lst, DL.addD_tup, DL.intD_int, DL.cmpD_int, DL.cmpD_str, DL.negD, DL.isNG1, DL.isN, DL.isiG, DL.isD, DL.isAnyG, DL.isAny, DL.isInsG, DL.lenG_str, DL.lenG_lst, DL.lenG_tup, DL.lenG_dK, DL.lenG_scr, DL.intG_int, DL.intG_bl, DL.intG_str, DL.strG, DL.absG, DL.two, DL.listG2_dK, DL.listG2_lst, DL.listG2_tup, DL.listG2_scr, DL.tupleG_lst, DL.tupleG_tup, DL.allG, DL.dSlice, DL.dNo, DL.dPart, DL.cutD_str, DL.cutD_lst, DL.cutD_tup, DL.dGNil, DL.dGCons, DL.dTupT, DL.dIter, DL.dRange1, DL.dRange2, DL.atI_0, DL.atI_1, DL.atI_2, DL.atI_3, DL.atI_4, DL.hotAt, DL.putAt, DL.SV.put, DL.dAppend, DL.dExtend, DL.sStore, DL.storeD, DL.sFldD, DL.putFD, DL.dFld, DL.splitG, DL.partitionG, DL.startsG, DL.joinG, DL.dClear, List.getElem?_cons_zero, List.getElem?_cons_succ, List.set_cons_zero, List.set_cons_succ, List.length_cons, List.length_nil, List.map_cons, List.map_nil, List.replicate_succ, List.replicate_zero, List.nil_append, List.cons_append, Nat.reduceAdd, Nat.reduceSub, Bool.bne_false, Bool.bne_true, Bool.not_true, Bool.not_false, decide_eq_true_eq, Bool.false_eq_true, reduceIte, and_true, true_and, if_true, if_false, decide_true, decide_false]
    rw [decide_eq_false h]
theorem tl_small : tl (Str.ofString "abcdefghijklmnopqrstuvwxyz") = List.range' 97 26 := by decide +kernel
theorem mem_small (c : Nat) : c ∈ tl (Str.ofString "abcdefghijklmnopqrstuvwxyz") ↔ 97 ≤ c ∧ c ≤ 122 := by
  rw [tl_small, List.mem_range'_1]; omega
theorem h_is_word : ∀ ds r, M_is_word ds r → t_is_word (endsP r) (startD N_is_word.length ds) := by
  rintro _ _ ⟨x, hx, rfl, rfl⟩
  simp only [DL.dVar, DL.dC, DL.dBin, DL.dUn, DL.dTest, DL.dIf, DL.dAnd, DL.dOr, DL.dNot, DL.dAndV, DL.dOrV, DL.dNotV, DL.dChain, DL.dNil, DL.dCons, DL.dTup, DL.dLst, DL.dDK, DL.dFz, DL.dCallL, DL.dCallP, DL.dCallN, DL.dCallT, DL.dCallTN, DL.dMake, DL.dProp, DL.dMeth, DL.dFmt, DL.dJs, DL.look, DL.lookL, DL.frz, DL.frzL, DL.startD, DL.startT, DL.sSeq, DL.sIf, DL.sRet, DL.sRetNew, DL.sRetN, DL.sAsg, DL.sNew, DL.sDrop, DL.sNext, DL.sPar, DL.sFor, DL.dSet, DL.endsP, DL.endsN, DL.endsT, DL.endsTN, DL.SV.toD, DL.Cell.toD, DL.isTy_str, DL.ixD_lst, DL.ixD_tup, DL.ixD_str, DL.ixD_dKs, DL.ixD_dKi, DL.inG_dKs, DL.inG_sign, DL.eqG_int, DL.eqG_str, DL.eqG_bl, DL.addD_int, DL.addD_str, DL.addD_lst, DL.addD_tup, DL.intD_int, DL.cmpD_int, DL.cmpD_str, DL.negD, DL.isNG1, DL.isN, DL.isiG, DL.isD, DL.isAnyG, DL.isAny, DL.isInsG, DL.lenG_str, DL.lenG_lst, DL.lenG_tup, DL.lenG_dK, DL.lenG_scr, DL.intG_int, DL.intG_bl, DL.intG_str, DL.strG, DL.absG, DL.two, DL.listG2_dK, DL.listG2_lst, DL.listG2_tup, DL.listG2_scr, DL.tupleG_lst, DL.tupleG_tup, DL.allG, DL.dSlice, DL.dNo, DL.dPart, DL.cutD_str, DL.cutD_lst, DL.cutD_tup, DL.dGNil, DL.dGCons, DL.dTupT, DL.dIter, DL.dRange1, DL.dRange2, DL.atI_0, DL.atI_1, DL.atI_2, DL.atI_3, DL.atI_4, DL.hotAt, DL.putAt, DL.SV.put, DL.dAppend, DL.dExtend, DL.sStore, DL.storeD, DL.sFldD, DL.putFD, DL.dFld, DL.splitG, DL.partitionG, DL.startsG, DL.joinG, DL.dClear, List.getElem?_cons_zero, List.getElem?_cons_succ, List.set_cons_zero, List.set_cons_succ, List.length_cons, List.length_nil, List.map_cons, List.map_nil, List.replicate_succ, List.replicate_zero, List.nil_append, List.cons_append, Nat.reduceAdd, Nat.reduceSub, Bool.bne_false, Bool.bne_true, Bool.not_true, Bool.not_false, decide_eq_true_eq, Bool.false_eq_true, reduceIte, and_true, true_and, if_true, if_false, decide_true, decide_false, t_is_word]
  refine ⟨_, ⟨x, _, rfl, rfl⟩, ?_⟩
  simp only [DL.dVar, DL.dC, DL.dBin, DL.dUn, DL.dTest, DL.dIf, DL.dAnd, DL.dOr, DL.dNot, DL.dAndV, DL.dOrV, DL.dNotV, DL.dChain, DL.dNil, DL.dCons, DL.dTup, DL.dLst, DL.dDK, DL.dFz, DL.dCallL, DL.dCallP, DL.dCallN, DL.dCallT, DL.dCallTN, DL.dMake, DL.dProp, DL.dMeth, DL.dFmt, DL.dJs, DL.look, DL.lookL, DL.frz, DL.frzL, DL.startD, DL.startT, DL.sSeq, DL.sIf, DL.sRet, DL.sRetNew, DL.sRetN, DL.sAsg, DL.sNew, DL.sDrop, DL.sNext, DL.sPar, DL.sFor, DL.dSet, DL.endsP, DL.endsN, DL.endsT, DL.endsTN, DL.SV.toD, DL.Cell.toD, DL.isTy_str, DL.ixD_lst, DL.ixD_tup, DL.ixD_str, DL.ixD_dKs, DL.ixD_dKi, DL.inG_dKs, DL.inG_sign, DL.eqG_int, DL.eqG_str, DL.eqG_bl, DL.addD_int, DL.addD_str, DL.addD_lst, DL.addD_tup, DL.intD_int, DL.cmpD_int, DL.cmpD_str, DL.negD, DL.isNG1, DL.isN, DL.isiG, DL.isD, DL.isAnyG, DL.isAny, DL.isInsG, DL.lenG_str, DL.lenG_lst, DL.lenG_tup, DL.lenG_dK, DL.lenG_scr, DL.intG_int, DL.intG_bl, DL.intG_str, DL.strG, DL.absG, DL.two, DL.listG2_dK, DL.listG2_lst, DL.listG2_tup, DL.listG2_scr, DL.tupleG_lst, DL.tupleG_tup, DL.allG, DL.dSlice, DL.dNo, DL.dPart, DL.cutD_str, DL.cutD_lst, DL.cutD_tup, DL.dGNil, DL.dGCons, DL.dTupT, DL.dIter, DL.dRange1, DL.dRange2, DL.atI_0, DL.atI_1, DL.atI_2, DL.atI_3, DL.atI_4, DL.hotAt, DL.putAt, DL.SV.put, DL.dAppend, DL.dExtend, DL.sStore, DL.storeD, DL.sFldD, DL.putFD, DL.dFld, DL.splitG, DL.partitionG, DL.startsG, DL.joinG, DL.dClear, List.getElem?_cons_zero, List.getElem?_cons_succ, List.set_cons_zero, List.set_cons_succ, List.length_cons, List.length_nil, List.map_cons, List.map_nil, List.replicate_succ, List.replicate_zero, List.nil_append, List.cons_append, Nat.reduceAdd, Nat.reduceSub, Bool.bne_false, Bool.bne_true, Bool.not_true, Bool.not_false, decide_eq_true_eq, Bool.false_eq_true, reduceIte, and_true, true_and, if_true, if_false, decide_true, decide_false, mem_small]
  split
  · rename_i h
    refine ⟨fit hx, ?_⟩
    have e : decide ((0 : Int) < (x.length : Int)) = decide ((∀ c ∈ tl x, 97 ≤ c ∧ c ≤ 122) ∧ tl x ≠ []) := by
      rw [len_tl]
      apply decide_eq_decide.mpr
      constructor
      · intro q; exact ⟨h, fun z => by rw [z] at q; simp at q⟩
      · rintro ⟨_, q⟩
        have := List.length_pos_iff.mpr q
        omega
    rw [e]
  · rename_i h
    have : ¬ ((∀ c ∈ tl x, 97 ≤ c ∧ c ≤ 122) ∧ tl x ≠ []) := fun q => h q.1
    rw [decide_eq_false this]
end K86

set_option Elab.async false
set_option linter.all false
set_option maxRecDepth 100000
set_option maxHeartbeats 2000000
namespace K86
open PySem L2 DL TL
theorem pair_nodup_lt {l : List Nat} (h : l.Pairwise (· < ·)) {i : Nat} (hi : i + 1 < l.length) : ∃ a b, l[i]? = some a ∧ l[i + 1]? = some b ∧ a < b :=
  ⟨l[i], l[i + 1], List.getElem?_eq_getElem (by omega), List.getElem?_eq_getElem hi, List.pairwise_iff_getElem.mp h i (i + 1) (by omega) hi (by omega)⟩
theorem asc_loop {x : Str} {D' : DEnds} (hx : x.length ≤ 4) (ha : (tl x).Pairwise (· < ·)) : ∀ (l : List Nat) (v : Option SV), (∀ i ∈ l, i + 1 < (tl x).length) → (∀ v, D'.nx [some (.imm (.str x)), v]) →
    forGo (dSet 1) (sIf (dTest (dBin geG (dBin (ixD NW) (dVar 0) (dBin subD (dVar 1) (dC (.int 1)))) (dBin (ixD NW) (dVar 0) (dVar 1)))) (sRet (dC (.bl false))) sNext) (l.map fun (i : Nat) => .int (1 + (i : Int))) D' [some (.imm (.str x)), v] := by
  intro l
  induction l with
  | nil => intro v _ h; exact h v
  | cons i l ih =>
    intro v hl h
    obtain ⟨a, b, h1, h2, h3⟩ := pair_nodup_lt ha (hl i List.mem_cons_self)
    have e1 : atI x.cps.toList (1 + (i : Int) - 1) = some a := atI_of i (by omega) h1
    have e2 : atI x.cps.toList (1 + (i : Int)) = some b := atI_of (i + 1) (by omega) h2
    simp only [List.map_cons]
    unfold forGo
    simp only [DL.dVar, DL.dC, DL.dBin, DL.dUn, DL.dTest, DL.dIf, DL.dAnd, DL.dOr, DL.dNot, DL.dAndV, DL.dOrV, DL.dNotV, DL.dChain, DL.dNil, DL.dCons, DL.dTup, DL.dLst, DL.dDK, DL.dFz, DL.dCallL, DL.dCallP, DL.dCallN, DL.dCallT, DL.dCallTN, DL.dMake, DL.dProp, DL.dMeth, DL.dFmt, DL.dJs, DL.look, DL.lookL, DL.frz, DL.frzL, DL.startD, DL.startT, DL.sSeq, DL.sIf, DL.sRet, DL.sRetNew, DL.sRetN, DL.sAsg, DL.sNew, DL.sDrop, DL.sNext, DL.sPar, DL.sFor, DL.dSet, DL.endsP, DL.endsN, DL.endsT, DL.endsTN, DL.SV.toD, DL.Cell.toD, DL.isTy_str, DL.ixD_lst, DL.ixD_tup, DL.ixD_str, DL.ixD_dKs, DL.ixD_dKi, DL.inG_dKs, DL.inG_sign, DL.eqG_int, DL.eqG_str, DL.eqG_bl, DL.addD_int, DL.addD_str, DL.addD_lst, DL.addD_tup, DL.intD_int, DL.cmpD_int, DL.cmpD_str, DL.negD, DL.isNG1, DL.isN, DL.isiG, DL.isD, DL.isAnyG, DL.isAny, DL.isInsG, DL.lenG_str, DL.lenG_lst, DL.lenG_tup, DL.lenG_dK, DL.lenG_scr, DL.intG_int, DL.intG_bl, DL.intG_str, DL.strG, DL.absG, DL.two, DL.listG2_dK, DL.listG2_lst, DL.listG2_tup, DL.listG2_scr, DL.tupleG_lst, DL.tupleG_tup, DL.allG, DL.dSlice, DL.dNo, DL.dPart, DL.cutD_str, DL.cutD_lst, DL.cutD_tup, DL.dGNil, DL.dGCons, DL.dTupT, DL.dIter, DL.dRange1, DL.dRange2, DL.atI_0, DL.atI_1, DL.atI_2, DL.atI_3, DL.atI_4, DL.hotAt, DL.putAt, DL.SV.put, DL.dAppend, DL.dExtend, DL.sStore, DL.storeD, DL.sFldD, DL.putFD, DL.dFld, DL.splitG, DL.partitionG, DL.startsG, DL.joinG, DL.dClear, List.getElem?_cons_zero, List.getElem?_cons_succ, List.set_cons_zero, List.set_cons_succ, List.length_cons, List.length_nil, List.map_cons, List.map_nil, List.replicate_succ, List.replicate_zero, List.nil_append, List.cons_append, Nat.reduceAdd, Nat.reduceSub, Bool.bne_false, Bool.bne_true, Bool.not_true, Bool.not_false, decide_eq_true_eq, Bool.false_eq_true, reduceIte, and_true, true_and, if_true, if_false, decide_true, decide_false, e1, e2]
    refine ⟨fit (by omega), fit (by omega), ?_⟩
    have e3 : (!decide ((⟨#[a]⟩ : Str).cps.toList < (⟨#[b]⟩ : Str).cps.toList)) = false := by
      have : ([a] : List Nat) < [b] := List.Lex.rel h3
      rw [decide_eq_true this]; rfl
    rw [e3]
    simp only [DL.dVar, DL.dC, DL.dBin, DL.dUn, DL.dTest, DL.dIf, DL.dAnd, DL.dOr, DL.dNot, DL.dAndV, DL.dOrV, DL.dNotV, DL.dChain, DL.dNil, DL.dCons, DL.dTup, DL.dLst, DL.dDK, DL.dFz, DL.dCallL, DL.dCallP, DL.dCallN, DL.dCallT, DL.dCallTN, DL.dMake, DL.dProp, DL.dMeth, DL.dFmt, DL.dJs, DL.look, DL.lookL, DL.frz, DL.frzL, DL.startD, DL.startT, DL.sSeq, DL.sIf, DL.sRet, DL.sRetNew, DL.sRetN, DL.sAsg, DL.sNew, DL.sDrop, DL.sNext, DL.sPar, DL.sFor, DL.dSet, DL.endsP, DL.endsN, DL.endsT, DL.endsTN, DL.SV.toD, DL.Cell.toD, DL.isTy_str, DL.ixD_lst, DL.ixD_tup, DL.ixD_str, DL.ixD_dKs, DL.ixD_dKi, DL.inG_dKs, DL.inG_sign, DL.eqG_int, DL.eqG_str, DL.eqG_bl, DL.addD_int, DL.addD_str, DL.addD_lst, DL.addD_tup, DL.intD_int, DL.cmpD_int, DL.cmpD_str, DL.negD, DL.isNG1, DL.isN, DL.isiG, DL.isD, DL.isAnyG, DL.isAny, DL.isInsG, DL.lenG_str, DL.lenG_lst, DL.lenG_tup, DL.lenG_dK, DL.lenG_scr, DL.intG_int, DL.intG_bl, DL.intG_str, DL.strG, DL.absG, DL.two, DL.listG2_dK, DL.listG2_lst, DL.listG2_tup, DL.listG2_scr, DL.tupleG_lst, DL.tupleG_tup, DL.allG, DL.dSlice, DL.dNo, DL.dPart, DL.cutD_str, DL.cutD_lst, DL.cutD_tup, DL.dGNil, DL.dGCons, DL.dTupT, DL.dIter, DL.dRange1, DL.dRange2, DL.atI_0, DL.atI_1, DL.atI_2, DL.atI_3, DL.atI_4, DL.hotAt, DL.putAt, DL.SV.put, DL.dAppend, DL.dExtend, DL.sStore, DL.storeD, DL.sFldD, DL.putFD, DL.dFld, DL.splitG, DL.partitionG, DL.startsG, DL.joinG, DL.dClear, List.getElem?_cons_zero, List.getElem?_cons_succ, List.set_cons_zero, List.set_cons_succ, List.length_cons, List.length_nil, List.map_cons, List.map_nil, List.replicate_succ, List.replicate_zero, List.nil_append, List.cons_append, Nat.reduceAdd, Nat.reduceSub, Bool.bne_false, Bool.bne_true, Bool.not_true, Bool.not_false, decide_eq_true_eq, Bool.false_eq_true, reduceIte, and_true, true_and, if_true, if_false, decide_true, decide_false]
    exact ih _ (fun j hj => hl j (List.mem_cons_of_mem _ hj)) h
theorem h_is_ascending : ∀ ds r, M_is_ascending ds r → t_is_ascending (endsP r) (startD N_is_ascending.length ds) := by
  rintro _ _ ⟨x, hx, rfl, rfl⟩
  have h4 := hx.four
  have hl : x.length ≤ 4 := by rw [len_tl]; exact h4
  simp only [DL.dVar, DL.dC, DL.dBin, DL.dUn, DL.dTest, DL.dIf, DL.dAnd, DL.dOr, DL.dNot, DL.dAndV, DL.dOrV, DL.dNotV, DL.dChain, DL.dNil, DL.dCons, DL.dTup, DL.dLst, DL.dDK, DL.dFz, DL.dCallL, DL.dCallP, DL.dCallN, DL.dCallT, DL.dCallTN, DL.dMake, DL.dProp, DL.dMeth, DL.dFmt, DL.dJs, DL.look, DL.lookL, DL.frz, DL.frzL, DL.startD, DL.startT, DL.sSeq, DL.sIf, DL.sRet, DL.sRetNew, DL.sRetN, DL.sAsg, DL.sNew, DL.sDrop, DL.sNext, DL.sPar, DL.sFor, DL.dSet, DL.endsP, DL.endsN, DL.endsT, DL.endsTN, DL.SV.toD, DL.Cell.toD, DL.isTy_str, DL.ixD_lst, DL.ixD_tup, DL.ixD_str, DL.ixD_dKs, DL.ixD_dKi, DL.inG_dKs, DL.inG_sign, DL.eqG_int, DL.eqG_str, DL.eqG_bl, DL.addD_int, DL.addD_str, DL.addD_lst, DL.addD_tup, DL.intD_int, DL.cmpD_int, DL.cmpD_str, DL.negD, DL.isNG1, DL.isN, DL.isiG, DL.isD, DL.isAnyG, DL.isAny, DL.isInsG, DL.lenG_str, DL.lenG_lst, DL.lenG_tup, DL.lenG_dK, DL.lenG_scr, DL.intG_int, DL.intG_bl, DL.intG_str, DL.strG, DL.absG, DL.two, DL.listG2_dK, DL.listG2_lst, DL.listG2_tup, DL.listG2_scr, DL.tupleG_lst, DL.tupleG_tup, DL.allG, DL.dSlice, DL.dNo, DL.dPart, DL.cutD_str, DL.cutD_lst, DL.cutD_tup, DL.dGNil, DL.dGCons, DL.dTupT, DL.dIter, DL.dRange1, DL.dRange2, DL.atI_0, DL.atI_1, DL.atI_2, DL.atI_3, DL.atI_4, DL.hotAt, DL.putAt, DL.SV.put, DL.dAppend, DL.dExtend, DL.sStore, DL.storeD, DL.sFldD, DL.putFD, DL.dFld, DL.splitG, DL.partitionG, DL.startsG, DL.joinG, DL.dClear, List.getElem?_cons_zero, List.getElem?_cons_succ, List.set_cons_zero, List.set_cons_succ, List.length_cons, List.length_nil, List.map_cons, List.map_nil, List.replicate_succ, List.replicate_zero, List.nil_append, List.cons_append, Nat.reduceAdd, Nat.reduceSub, Bool.bne_false, Bool.bne_true, Bool.not_true, Bool.not_false, decide_eq_true_eq, Bool.false_eq_true, reduceIte, and_true, true_and, if_true, if_false, decide_true, decide_false, t_is_ascending, rangeD]
  refine ⟨fit (by omega), by omega, ?_⟩
  refine asc_loop hl hx.asc _ _ (fun i hi => ?_) fun v => ?_
  · have := List.mem_range.mp hi
    rw [← len_tl]
    omega
  · simp only [DL.dVar, DL.dC, DL.dBin, DL.dUn, DL.dTest, DL.dIf, DL.dAnd, DL.dOr, DL.dNot, DL.dAndV, DL.dOrV, DL.dNotV, DL.dChain, DL.dNil, DL.dCons, DL.dTup, DL.dLst, DL.dDK, DL.dFz, DL.dCallL, DL.dCallP, DL.dCallN, DL.dCallT, DL.dCallTN, DL.dMake, DL.dProp, DL.dMeth, DL.dFmt, DL.dJs, DL.look, DL.lookL, DL.frz, DL.frzL, DL.startD, DL.startT, DL.sSeq, DL.sIf, DL.sRet, DL.sRetNew, DL.sRetN, DL.sAsg, DL.sNew, DL.sDrop, DL.sNext, DL.sPar, DL.sFor, DL.dSet, DL.endsP, DL.endsN, DL.endsT, DL.endsTN, DL.SV.toD, DL.Cell.toD, DL.isTy_str, DL.ixD_lst, DL.ixD_tup, DL.ixD_str, DL.ixD_dKs, DL.ixD_dKi, DL.inG_dKs, DL.inG_sign, DL.eqG_int, DL.eqG_str, DL.eqG_bl, DL.addD_int, DL.addD_str, DL.addD_lst, DL.addD_tup, DL.intD_int, DL.cmpD_int, DL.cmpD_str, DL.negD, DL.isNG1, DL.isN, DL.isiG, DL.isD, DL.isAnyG, DL.isAny, DL.isInsG, DL.lenG_str, DL.lenG_lst, DL.lenG_tup, DL.lenG_dK, DL.lenG_scr, DL.intG_int, DL.intG_bl, DL.intG_str, DL.strG, DL.absG, DL.two, DL.listG2_dK, DL.listG2_lst, DL.listG2_tup, DL.listG2_scr, DL.tupleG_lst, DL.tupleG_tup, DL.allG, DL.dSlice, DL.dNo, DL.dPart, DL.cutD_str, DL.cutD_lst, DL.cutD_tup, DL.dGNil, DL.dGCons, DL.dTupT, DL.dIter, DL.dRange1, DL.dRange2, DL.atI_0, DL.atI_1, DL.atI_2, DL.atI_3, DL.atI_4, DL.hotAt, DL.putAt, DL.SV.put, DL.dAppend, DL.dExtend, DL.sStore, DL.storeD, DL.sFldD, DL.putFD, DL.dFld, DL.splitG, DL.partitionG, DL.startsG, DL.joinG, DL.dClear, List.getElem?_cons_zero, List.getElem?_cons_succ, List.set_cons_zero, List.set_cons_succ, List.length_cons, List.length_nil, List.map_cons, List.map_nil, List.replicate_succ, List.replicate_zero, List.nil_append, List.cons_append, Nat.reduceAdd, Nat.reduceSub, Bool.bne_false, Bool.bne_true, Bool.not_true, Bool.not_false, decide_eq_true_eq, Bool.false_eq_true, reduceIte, and_true, true_and, if_true, if_false, decide_true, decide_false]
theorem h_is_rows : ∀ ds r, M_is_rows ds r → t_is_rows (endsP r) (startD N_is_rows.length ds) := by
  rintro _ _ ⟨x, hx, rfl, rfl⟩
  have h4 := hx.four
  have h1 := hx.one
  have hl : x.length ≤ 4 := by rw [len_tl]; exact h4
  simp only [DL.dVar, DL.dC, DL.dBin, DL.dUn, DL.dTest, DL.dIf, DL.dAnd, DL.dOr, DL.dNot, DL.dAndV, DL.dOrV, DL.dNotV, DL.dChain, DL.dNil, DL.dCons, DL.dTup, DL.dLst, DL.dDK, DL.dFz, DL.dCallL, DL.dCallP, DL.dCallN, DL.dCallT, DL.dCallTN, DL.dMake, DL.dProp, DL.dMeth, DL.dFmt, DL.dJs, DL.look, DL.lookL, DL.frz, DL.frzL, DL.startD, DL.startT, DL.sSeq, DL.sIf, DL.sRet, DL.sRetNew, DL.sRetN, DL.sAsg, DL.sNew, DL.sDrop, DL.sNext, DL.sPar, DL.sFor, DL.dSet, DL.endsP, DL.endsN, DL.endsT, DL.endsTN, DL.SV.toD, DL.Cell.toD, DL.isTy_str, DL.ixD_lst, DL.ixD_tup, DL.ixD_str, DL.ixD_dKs, DL.ixD_dKi, DL.inG_dKs, DL.inG_sign, DL.eqG_int, DL.eqG_str, DL.eqG_bl, DL.addD_int, DL.addD_str, DL.addD_lst, DL.addD_tup, DL.intD_int, DL.cmpD_int, DL.cmpD_str, DL.negD, DL.isNG1, DL.isN, DL.isiG, DL.isD, DL.isAnyG, DL.isAny, DL.isInsG, DL.lenG_str, DL.lenG_lst, DL.lenG_tup, DL.lenG_dK, DL.lenG_scr, DL.intG_int, DL.intG_bl, DL.intG_str, DL.strG, DL.absG, DL.two, DL.listG2_dK, DL.listG2_lst, DL.listG2_tup, DL.listG2_scr, DL.tupleG_lst, DL.tupleG_tup, DL.allG, DL.dSlice, DL.dNo, DL.dPart, DL.cutD_str, DL.cutD_lst, DL.cutD_tup, DL.dGNil, DL.dGCons, DL.dTupT, DL.dIter, DL.dRange1, DL.dRange2, DL.atI_0, DL.atI_1, DL.atI_2, DL.atI_3, DL.atI_4, DL.hotAt, DL.putAt, DL.SV.put, DL.dAppend, DL.dExtend, DL.sStore, DL.storeD, DL.sFldD, DL.putFD, DL.dFld, DL.splitG, DL.partitionG, DL.startsG, DL.joinG, DL.dClear, List.getElem?_cons_zero, List.getElem?_cons_succ, List.set_cons_zero, List.set_cons_succ, List.length_cons, List.length_nil, List.map_cons, List.map_nil, List.replicate_succ, List.replicate_zero, List.nil_append, List.cons_append, Nat.reduceAdd, Nat.reduceSub, Bool.bne_false, Bool.bne_true, Bool.not_true, Bool.not_false, decide_eq_true_eq, Bool.false_eq_true, reduceIte, and_true, true_and, if_true, if_false, decide_true, decide_false, t_is_rows]
  refine ⟨_, ⟨x, by omega, rfl, rfl⟩, ?_⟩
  rw [decide_eq_true ⟨hx.low, fun z => by rw [z] at h1; simp at h1⟩]
  simp only [DL.dVar, DL.dC, DL.dBin, DL.dUn, DL.dTest, DL.dIf, DL.dAnd, DL.dOr, DL.dNot, DL.dAndV, DL.dOrV, DL.dNotV, DL.dChain, DL.dNil, DL.dCons, DL.dTup, DL.dLst, DL.dDK, DL.dFz, DL.dCallL, DL.dCallP, DL.dCallN, DL.dCallT, DL.dCallTN, DL.dMake, DL.dProp, DL.dMeth, DL.dFmt, DL.dJs, DL.look, DL.lookL, DL.frz, DL.frzL, DL.startD, DL.startT, DL.sSeq, DL.sIf, DL.sRet, DL.sRetNew, DL.sRetN, DL.sAsg, DL.sNew, DL.sDrop, DL.sNext, DL.sPar, DL.sFor, DL.dSet, DL.endsP, DL.endsN, DL.endsT, DL.endsTN, DL.SV.toD, DL.Cell.toD, DL.isTy_str, DL.ixD_lst, DL.ixD_tup, DL.ixD_str, DL.ixD_dKs, DL.ixD_dKi, DL.inG_dKs, DL.inG_sign, DL.eqG_int, DL.eqG_str, DL.eqG_bl, DL.addD_int, DL.addD_str, DL.addD_lst, DL.addD_tup, DL.intD_int, DL.cmpD_int, DL.cmpD_str, DL.negD, DL.isNG1, DL.isN, DL.isiG, DL.isD, DL.isAnyG, DL.isAny, DL.isInsG, DL.lenG_str, DL.lenG_lst, DL.lenG_tup, DL.lenG_dK, DL.lenG_scr, DL.intG_int, DL.intG_bl, DL.intG_str, DL.strG, DL.absG, DL.two, DL.listG2_dK, DL.listG2_lst, DL.listG2_tup, DL.listG2_scr, DL.tupleG_lst, DL.tupleG_tup, DL.allG, DL.dSlice, DL.dNo, DL.dPart, DL.cutD_str, DL.cutD_lst, DL.cutD_tup, DL.dGNil, DL.dGCons, DL.dTupT, DL.dIter, DL.dRange1, DL.dRange2, DL.atI_0, DL.atI_1, DL.atI_2, DL.atI_3, DL.atI_4, DL.hotAt, DL.putAt, DL.SV.put, DL.dAppend, DL.dExtend, DL.sStore, DL.storeD, DL.sFldD, DL.putFD, DL.dFld, DL.splitG, DL.partitionG, DL.startsG, DL.joinG, DL.dClear, List.getElem?_cons_zero, List.getElem?_cons_succ, List.set_cons_zero, List.set_cons_succ, List.length_cons, List.length_nil, List.map_cons, List.map_nil, List.replicate_succ, List.replicate_zero, List.nil_append, List.cons_append, Nat.reduceAdd, Nat.reduceSub, Bool.bne_false, Bool.bne_true, Bool.not_true, Bool.not_false, decide_eq_true_eq, Bool.false_eq_true, reduceIte, and_true, true_and, if_true, if_false, decide_true, decide_false]
  refine ⟨fit (by omega), ?_⟩
  rw [if_pos (show (x.length : Int) ≤ 4 by omega)]
  exact ⟨_, ⟨x, hx, rfl, rfl⟩, rfl⟩
theorem mk_app (c : List Nat) (a : Nat) : mk c ++ (⟨#[a]⟩ : Str) = mk (c ++ [a]) := ext_tl (by rw [tl_append]; rfl)
theorem codesS_succ (r : Str) (n : Nat) : codesS r (n + 1) = (codesS r n).flatMap fun c => (tl r).map fun a => c ++ (⟨#[a]⟩ : Str) := by
  unfold codesS
  show ((codesN (tl r) n).flatMap fun c => (tl r).map fun x => c ++ [x]).map mk = _
  rw [List.map_flatMap, List.flatMap_map]
  congr 1
  funext c
  rw [List.map_map]
  apply List.map_congr_left
  intro a _
  exact (mk_app c a).symm
theorem codesS_len (r : Str) (n : Nat) (h : (tl r).length ≤ 4) (hn : n ≤ 4) : (codesS r n).length ≤ 256 := by
  unfold codesS
  rw [List.length_map, codesN_len]
  exact Nat.le_trans (Nat.pow_le_pow_left h n) (Nat.le_trans (Nat.pow_le_pow_right (by decide) hn) (by decide))
theorem codes_loop {r : Str} {n : Nat} {D' : DEnds} (hr : (tl r).length ≤ 4) : ∀ (l : List Nat) (k : Nat) (v : Option SV), k + l.length ≤ 3 →
    (∀ v, D'.nx [some (.imm (.str r)), some (.imm (.int n)), some (.own (.lst ((codesS r (k + l.length)).map .str))), v, none, none]) →
    forGo (dSet 3) (sNew (dLc2 (dIter (dVar 2)) [4, 5] [5] (dSet 4) dYes (dIter (dVar 0)) (dSet 5) dYes (dBin addD (dVar 4) (dVar 5))) 2) (l.map fun (i : Nat) => .int (0 + (i : Int))) D' [some (.imm (.str r)), some (.imm (.int n)), some (.own (.lst ((codesS r k).map .str))), v, none, none] := by
  intro l
  induction l with
  | nil => intro k v _ h; exact h v
  | cons i l ih =>
    intro k v hk h
    rw [List.length_cons] at hk h
    simp only [List.map_cons]
    unfold forGo
    simp only [DL.dVar, DL.dC, DL.dBin, DL.dUn, DL.dTest, DL.dIf, DL.dAnd, DL.dOr, DL.dNot, DL.dAndV, DL.dOrV, DL.dNotV, DL.dChain, DL.dNil, DL.dCons, DL.dTup, DL.dLst, DL.dDK, DL.dFz, DL.dCallL, DL.dCallP, DL.dCallN, DL.dCallT, DL.dCallTN, DL.dMake, DL.dProp, DL.dMeth, DL.dFmt, DL.dJs, DL.look, DL.lookL, DL.frz, DL.frzL, DL.startD, DL.startT, DL.sSeq, DL.sIf, DL.sRet, DL.sRetNew, DL.sRetN, DL.sAsg, DL.sNew, DL.sDrop, DL.sNext, DL.sPar, DL.sFor, DL.dSet, DL.endsP, DL.endsN, DL.endsT, DL.endsTN, DL.SV.toD, DL.Cell.toD, DL.isTy_str, DL.ixD_lst, DL.ixD_tup, DL.ixD_str, DL.ixD_dKs, DL.ixD_dKi, DL.inG_dKs, DL.inG_sign, DL.eqG_int, DL.eqG_str, DL.eqG_bl, DL.addD_int, DL.addD_str, DL.addD_lst, DL.addD_tup, DL.intD_int, DL.cmpD_int, DL.cmpD_str, DL.negD, DL.isNG1, DL.isN, DL.isiG, DL.isD, DL.isAnyG, DL.isAny, DL.isInsG, DL.lenG_str, DL.lenG_lst, DL.lenG_tup, DL.lenG_dK, DL.lenG_scr, DL.intG_int, DL.intG_bl, DL.intG_str, DL.strG, DL.absG, DL.two, DL.listG2_dK, DL.listG2_lst, DL.listG2_tup, DL.listG2_scr, DL.tupleG_lst, DL.tupleG_tup, DL.allG, DL.dSlice, DL.dNo, DL.dPart, DL.cutD_str, DL.cutD_lst, DL.cutD_tup, DL.dGNil, DL.dGCons, DL.dTupT, DL.dIter, DL.dRange1, DL.dRange2, DL.atI_0, DL.atI_1, DL.atI_2, DL.atI_3, DL.atI_4, DL.hotAt, DL.putAt, DL.SV.put, DL.dAppend, DL.dExtend, DL.sStore, DL.storeD, DL.sFldD, DL.putFD, DL.dFld, DL.splitG, DL.partitionG, DL.startsG, DL.joinG, DL.dClear, List.getElem?_cons_zero, List.getElem?_cons_succ, List.set_cons_zero, List.set_cons_succ, List.length_cons, List.length_nil, List.map_cons, List.map_nil, List.replicate_succ, List.replicate_zero, List.nil_append, List.cons_append, Nat.reduceAdd, Nat.reduceSub, Bool.bne_false, Bool.bne_true, Bool.not_true, Bool.not_false, decide_eq_true_eq, Bool.false_eq_true, reduceIte, and_true, true_and, if_true, if_false, decide_true, decide_false, dLc2]
    have hz := codesS_len r (k + 1) hr (by omega)
    refine lc2Go_flat (f := fun d => match d with | .str c => (tl r).map fun a => .str (c ++ (⟨#[a]⟩ : Str)) | _ => []) rfl _ _ (fun d hd acc Q2 Q3 hz h2 => ?_) ?_ ?_
    · obtain ⟨c, hc, e⟩ := List.mem_map.mp hd
      subst e
      have hcl := (codesS_mem hc).1
      simp only [DL.dVar, DL.dC, DL.dBin, DL.dUn, DL.dTest, DL.dIf, DL.dAnd, DL.dOr, DL.dNot, DL.dAndV, DL.dOrV, DL.dNotV, DL.dChain, DL.dNil, DL.dCons, DL.dTup, DL.dLst, DL.dDK, DL.dFz, DL.dCallL, DL.dCallP, DL.dCallN, DL.dCallT, DL.dCallTN, DL.dMake, DL.dProp, DL.dMeth, DL.dFmt, DL.dJs, DL.look, DL.lookL, DL.frz, DL.frzL, DL.startD, DL.startT, DL.sSeq, DL.sIf, DL.sRet, DL.sRetNew, DL.sRetN, DL.sAsg, DL.sNew, DL.sDrop, DL.sNext, DL.sPar, DL.sFor, DL.dSet, DL.endsP, DL.endsN, DL.endsT, DL.endsTN, DL.SV.toD, DL.Cell.toD, DL.isTy_str, DL.ixD_lst, DL.ixD_tup, DL.ixD_str, DL.ixD_dKs, DL.ixD_dKi, DL.inG_dKs, DL.inG_sign, DL.eqG_int, DL.eqG_str, DL.eqG_bl, DL.addD_int, DL.addD_str, DL.addD_lst, DL.addD_tup, DL.intD_int, DL.cmpD_int, DL.cmpD_str, DL.negD, DL.isNG1, DL.isN, DL.isiG, DL.isD, DL.isAnyG, DL.isAny, DL.isInsG, DL.lenG_str, DL.lenG_lst, DL.lenG_tup, DL.lenG_dK, DL.lenG_scr, DL.intG_int, DL.intG_bl, DL.intG_str, DL.strG, DL.absG, DL.two, DL.listG2_dK, DL.listG2_lst, DL.listG2_tup, DL.listG2_scr, DL.tupleG_lst, DL.tupleG_tup, DL.allG, DL.dSlice, DL.dNo, DL.dPart, DL.cutD_str, DL.cutD_lst, DL.cutD_tup, DL.dGNil, DL.dGCons, DL.dTupT, DL.dIter, DL.dRange1, DL.dRange2, DL.atI_0, DL.atI_1, DL.atI_2, DL.atI_3, DL.atI_4, DL.hotAt, DL.putAt, DL.SV.put, DL.dAppend, DL.dExtend, DL.sStore, DL.storeD, DL.sFldD, DL.putFD, DL.dFld, DL.splitG, DL.partitionG, DL.startsG, DL.joinG, DL.dClear, List.getElem?_cons_zero, List.getElem?_cons_succ, List.set_cons_zero, List.set_cons_succ, List.length_cons, List.length_nil, List.map_cons, List.map_nil, List.replicate_succ, List.replicate_zero, List.nil_append, List.cons_append, Nat.reduceAdd, Nat.reduceSub, Bool.bne_false, Bool.bne_true, Bool.not_true, Bool.not_false, decide_eq_true_eq, Bool.false_eq_true, reduceIte, and_true, true_and, if_true, if_false, decide_true, decide_false, dYes, wipeE, back, DL.signs]
      refine lcGo_map (f := fun d => match d with | .str a => .str (c ++ a) | _ => d) rfl _ _ (fun d hd Q2 Q3 h3 => ?_) ?_ ?_
      · obtain ⟨a, ha, e⟩ := List.mem_map.mp hd
        subst e
        simp only [DL.dVar, DL.dC, DL.dBin, DL.dUn, DL.dTest, DL.dIf, DL.dAnd, DL.dOr, DL.dNot, DL.dAndV, DL.dOrV, DL.dNotV, DL.dChain, DL.dNil, DL.dCons, DL.dTup, DL.dLst, DL.dDK, DL.dFz, DL.dCallL, DL.dCallP, DL.dCallN, DL.dCallT, DL.dCallTN, DL.dMake, DL.dProp, DL.dMeth, DL.dFmt, DL.dJs, DL.look, DL.lookL, DL.frz, DL.frzL, DL.startD, DL.startT, DL.sSeq, DL.sIf, DL.sRet, DL.sRetNew, DL.sRetN, DL.sAsg, DL.sNew, DL.sDrop, DL.sNext, DL.sPar, DL.sFor, DL.dSet, DL.endsP, DL.endsN, DL.endsT, DL.endsTN, DL.SV.toD, DL.Cell.toD, DL.isTy_str, DL.ixD_lst, DL.ixD_tup, DL.ixD_str, DL.ixD_dKs, DL.ixD_dKi, DL.inG_dKs, DL.inG_sign, DL.eqG_int, DL.eqG_str, DL.eqG_bl, DL.addD_int, DL.addD_str, DL.addD_lst, DL.addD_tup, DL.intD_int, DL.cmpD_int, DL.cmpD_str, DL.negD, DL.isNG1, DL.isN, DL.isiG, DL.isD, DL.isAnyG, DL.isAny, DL.isInsG, DL.lenG_str, DL.lenG_lst, DL.lenG_tup, DL.lenG_dK, DL.lenG_scr, DL.intG_int, DL.intG_bl, DL.intG_str, DL.strG, DL.absG, DL.two, DL.listG2_dK, DL.listG2_lst, DL.listG2_tup, DL.listG2_scr, DL.tupleG_lst, DL.tupleG_tup, DL.allG, DL.dSlice, DL.dNo, DL.dPart, DL.cutD_str, DL.cutD_lst, DL.cutD_tup, DL.dGNil, DL.dGCons, DL.dTupT, DL.dIter, DL.dRange1, DL.dRange2, DL.atI_0, DL.atI_1, DL.atI_2, DL.atI_3, DL.atI_4, DL.hotAt, DL.putAt, DL.SV.put, DL.dAppend, DL.dExtend, DL.sStore, DL.storeD, DL.sFldD, DL.putFD, DL.dFld, DL.splitG, DL.partitionG, DL.startsG, DL.joinG, DL.dClear, List.getElem?_cons_zero, List.getElem?_cons_succ, List.set_cons_zero, List.set_cons_succ, List.length_cons, List.length_nil, List.map_cons, List.map_nil, List.replicate_succ, List.replicate_zero, List.nil_append, List.cons_append, Nat.reduceAdd, Nat.reduceSub, Bool.bne_false, Bool.bne_true, Bool.not_true, Bool.not_false, decide_eq_true_eq, Bool.false_eq_true, reduceIte, and_true, true_and, if_true, if_false, decide_true, decide_false, dYes, wipeE, back]
        refine ⟨fit ?_, h3⟩
        rw [len_tl, len_tl, hcl]
        show k + 1 ≤ 1000
        omega
      · simpa using hz
      · simp only [List.map_map]
        exact h2
    · rw [List.flatMap_map, List.length_nil, Nat.zero_add]
      have e : ((codesS r k).flatMap fun c => (tl r).map fun a => D.str (c ++ (⟨#[a]⟩ : Str))) = (codesS r (k + 1)).map D.str := by
        rw [codesS_succ, List.map_flatMap]; simp [Function.comp_def]
      rw [e, List.length_map]
      exact fit (by omega)
    · rw [List.flatMap_map]
      have e : ((codesS r k).flatMap fun c => (tl r).map fun a => D.str (c ++ (⟨#[a]⟩ : Str))) = (codesS r (k + 1)).map D.str := by
        rw [codesS_succ, List.map_flatMap]; simp [Function.comp_def]
      rw [e]
      simp only [DL.dVar, DL.dC, DL.dBin, DL.dUn, DL.dTest, DL.dIf, DL.dAnd, DL.dOr, DL.dNot, DL.dAndV, DL.dOrV, DL.dNotV, DL.dChain, DL.dNil, DL.dCons, DL.dTup, DL.dLst, DL.dDK, DL.dFz, DL.dCallL, DL.dCallP, DL.dCallN, DL.dCallT, DL.dCallTN, DL.dMake, DL.dProp, DL.dMeth, DL.dFmt, DL.dJs, DL.look, DL.lookL, DL.frz, DL.frzL, DL.startD, DL.startT, DL.sSeq, DL.sIf, DL.sRet, DL.sRetNew, DL.sRetN, DL.sAsg, DL.sNew, DL.sDrop, DL.sNext, DL.sPar, DL.sFor, DL.dSet, DL.endsP, DL.endsN, DL.endsT, DL.endsTN, DL.SV.toD, DL.Cell.toD, DL.isTy_str, DL.ixD_lst, DL.ixD_tup, DL.ixD_str, DL.ixD_dKs, DL.ixD_dKi, DL.inG_dKs, DL.inG_sign, DL.eqG_int, DL.eqG_str, DL.eqG_bl, DL.addD_int, DL.addD_str, DL.addD_lst, DL.addD_tup, DL.intD_int, DL.cmpD_int, DL.cmpD_str, DL.negD, DL.isNG1, DL.isN, DL.isiG, DL.isD, DL.isAnyG, DL.isAny, DL.isInsG, DL.lenG_str, DL.lenG_lst, DL.lenG_tup, DL.lenG_dK, DL.lenG_scr, DL.intG_int, DL.intG_bl, DL.intG_str, DL.strG, DL.absG, DL.two, DL.listG2_dK, DL.listG2_lst, DL.listG2_tup, DL.listG2_scr, DL.tupleG_lst, DL.tupleG_tup, DL.allG, DL.dSlice, DL.dNo, DL.dPart, DL.cutD_str, DL.cutD_lst, DL.cutD_tup, DL.dGNil, DL.dGCons, DL.dTupT, DL.dIter, DL.dRange1, DL.dRange2, DL.atI_0, DL.atI_1, DL.atI_2, DL.atI_3, DL.atI_4, DL.hotAt, DL.putAt, DL.SV.put, DL.dAppend, DL.dExtend, DL.sStore, DL.storeD, DL.sFldD, DL.putFD, DL.dFld, DL.splitG, DL.partitionG, DL.startsG, DL.joinG, DL.dClear, List.getElem?_cons_zero, List.getElem?_cons_succ, List.set_cons_zero, List.set_cons_succ, List.length_cons, List.length_nil, List.map_cons, List.map_nil, List.replicate_succ, List.replicate_zero, List.nil_append, List.cons_append, Nat.reduceAdd, Nat.reduceSub, Bool.bne_false, Bool.bne_true, Bool.not_true, Bool.not_false, decide_eq_true_eq, Bool.false_eq_true, reduceIte, and_true, true_and, if_true, if_false, decide_true, decide_false]
      refine ih (k + 1) _ (by omega) fun v => ?_
      have e2 : k + 1 + l.length = k + (l.length + 1) := by omega
      rw [e2]
      exact h v
theorem h_codes_of_length : ∀ ds r, M_codes_of_length ds r → t_codes_of_length (endsN r) (startD N_codes_of_length.length ds) := by
  rintro _ _ ⟨r, n, hr, hn, rfl, rfl⟩
  simp only [DL.dVar, DL.dC, DL.dBin, DL.dUn, DL.dTest, DL.dIf, DL.dAnd, DL.dOr, DL.dNot, DL.dAndV, DL.dOrV, DL.dNotV, DL.dChain, DL.dNil, DL.dCons, DL.dTup, DL.dLst, DL.dDK, DL.dFz, DL.dCallL, DL.dCallP, DL.dCallN, DL.dCallT, DL.dCallTN, DL.dMake, DL.dProp, DL.dMeth, DL.dFmt, DL.dJs, DL.look, DL.lookL, DL.frz, DL.frzL, DL.startD, DL.startT, DL.sSeq, DL.sIf, DL.sRet, DL.sRetNew, DL.sRetN, DL.sAsg, DL.sNew, DL.sDrop, DL.sNext, DL.sPar, DL.sFor, DL.dSet, DL.endsP, DL.endsN, DL.endsT, DL.endsTN, DL.SV.toD, DL.Cell.toD, DL.isTy_str, DL.ixD_lst, DL.ixD_tup, DL.ixD_str, DL.ixD_dKs, DL.ixD_dKi, DL.inG_dKs, DL.inG_sign, DL.eqG_int, DL.eqG_str, DL.eqG_bl, DL.addD_int, DL.addD_str, DL.addD_lst, DL.addD_tup, DL.intD_int, DL.cmpD_int, DL.cmpD_str, DL.negD, DL.isNG1, DL.isN, DL.isiG, DL.isD, DL.isAnyG, DL.isAny, DL.isInsG, DL.lenG_str, DL.lenG_lst, DL.lenG_tup, DL.lenG_dK, DL.lenG_scr, DL.intG_int, DL.intG_bl, DL.intG_str, DL.strG, DL.absG, DL.two, DL.listG2_dK, DL.listG2_lst, DL.listG2_tup, DL.listG2_scr, DL.tupleG_lst, DL.tupleG_tup, DL.allG, DL.dSlice, DL.dNo, DL.dPart, DL.cutD_str, DL.cutD_lst, DL.cutD_tup, DL.dGNil, DL.dGCons, DL.dTupT, DL.dIter, DL.dRange1, DL.dRange2, DL.atI_0, DL.atI_1, DL.atI_2, DL.atI_3, DL.atI_4, DL.hotAt, DL.putAt, DL.SV.put, DL.dAppend, DL.dExtend, DL.sStore, DL.storeD, DL.sFldD, DL.putFD, DL.dFld, DL.splitG, DL.partitionG, DL.startsG, DL.joinG, DL.dClear, List.getElem?_cons_zero, List.getElem?_cons_succ, List.set_cons_zero, List.set_cons_succ, List.length_cons, List.length_nil, List.map_cons, List.map_nil, List.replicate_succ, List.replicate_zero, List.nil_append, List.cons_append, Nat.reduceAdd, Nat.reduceSub, Bool.bne_false, Bool.bne_true, Bool.not_true, Bool.not_false, decide_eq_true_eq, Bool.false_eq_true, reduceIte, and_true, true_and, if_true, if_false, decide_true, decide_false, t_codes_of_length, rangeD]
  refine ⟨by decide, by omega, ?_⟩
  have := codes_loop (r := r) (n := n) hr (List.range ((n : Int)).toNat) 0 none (D' := { nx := sRet (dVar 2) (endsN (.lst ((codesS r n).map .str))), rt := (endsN (.lst ((codesS r n).map .str))).rt, rn := (endsN (.lst ((codesS r n).map .str))).rn }) (by simp; omega) ?_
  · simp only [DL.dVar, DL.dC, DL.dBin, DL.dUn, DL.dTest, DL.dIf, DL.dAnd, DL.dOr, DL.dNot, DL.dAndV, DL.dOrV, DL.dNotV, DL.dChain, DL.dNil, DL.dCons, DL.dTup, DL.dLst, DL.dDK, DL.dFz, DL.dCallL, DL.dCallP, DL.dCallN, DL.dCallT, DL.dCallTN, DL.dMake, DL.dProp, DL.dMeth, DL.dFmt, DL.dJs, DL.look, DL.lookL, DL.frz, DL.frzL, DL.startD, DL.startT, DL.sSeq, DL.sIf, DL.sRet, DL.sRetNew, DL.sRetN, DL.sAsg, DL.sNew, DL.sDrop, DL.sNext, DL.sPar, DL.sFor, DL.dSet, DL.endsP, DL.endsN, DL.endsT, DL.endsTN, DL.SV.toD, DL.Cell.toD, DL.isTy_str, DL.ixD_lst, DL.ixD_tup, DL.ixD_str, DL.ixD_dKs, DL.ixD_dKi, DL.inG_dKs, DL.inG_sign, DL.eqG_int, DL.eqG_str, DL.eqG_bl, DL.addD_int, DL.addD_str, DL.addD_lst, DL.addD_tup, DL.intD_int, DL.cmpD_int, DL.cmpD_str, DL.negD, DL.isNG1, DL.isN, DL.isiG, DL.isD, DL.isAnyG, DL.isAny, DL.isInsG, DL.lenG_str, DL.lenG_lst, DL.lenG_tup, DL.lenG_dK, DL.lenG_scr, DL.intG_int, DL.intG_bl, DL.intG_str, DL.strG, DL.absG, DL.two, DL.listG2_dK, DL.listG2_lst, DL.listG2_tup, DL.listG2_scr, DL.tupleG_lst, DL.tupleG_tup, DL.allG, DL.dSlice, DL.dNo, DL.dPart, DL.cutD_str, DL.cutD_lst, DL.cutD_tup, DL.dGNil, DL.dGCons, DL.dTupT, DL.dIter, DL.dRange1, DL.dRange2, DL.atI_0, DL.atI_1, DL.atI_2, DL.atI_3, DL.atI_4, DL.hotAt, DL.putAt, DL.SV.put, DL.dAppend, DL.dExtend, DL.sStore, DL.storeD, DL.sFldD, DL.putFD, DL.dFld, DL.splitG, DL.partitionG, DL.startsG, DL.joinG, DL.dClear, List.getElem?_cons_zero, List.getElem?_cons_succ, List.set_cons_zero, List.set_cons_succ, List.length_cons, List.length_nil, List.map_cons, List.map_nil, List.replicate_succ, List.replicate_zero, List.nil_append, List.cons_append, Nat.reduceAdd, Nat.reduceSub, Bool.bne_false, Bool.bne_true, Bool.not_true, Bool.not_false, decide_eq_true_eq, Bool.false_eq_true, reduceIte, and_true, true_and, if_true, if_false, decide_true, decide_false] at this ⊢
    exact this
  · intro v
    simp only [DL.dVar, DL.dC, DL.dBin, DL.dUn, DL.dTest, DL.dIf, DL.dAnd, DL.dOr, DL.dNot, DL.dAndV, DL.dOrV, DL.dNotV, DL.dChain, DL.dNil, DL.dCons, DL.dTup, DL.dLst, DL.dDK, DL.dFz, DL.dCallL, DL.dCallP, DL.dCallN, DL.dCallT, DL.dCallTN, DL.dMake, DL.dProp, DL.dMeth, DL.dFmt, DL.dJs, DL.look, DL.lookL, DL.frz, DL.frzL, DL.startD, DL.startT, DL.sSeq, DL.sIf, DL.sRet, DL.sRetNew, DL.sRetN, DL.sAsg, DL.sNew, DL.sDrop, DL.sNext, DL.sPar, DL.sFor, DL.dSet, DL.endsP, DL.endsN, DL.endsT, DL.endsTN, DL.SV.toD, DL.Cell.toD, DL.isTy_str, DL.ixD_lst, DL.ixD_tup, DL.ixD_str, DL.ixD_dKs, DL.ixD_dKi, DL.inG_dKs, DL.inG_sign, DL.eqG_int, DL.eqG_str, DL.eqG_bl, DL.addD_int, DL.addD_str, DL.addD_lst, DL.addD_tup, DL.intD_int, DL.cmpD_int, DL.cmpD_str, DL.negD, DL.isNG1, DL.isN, DL.isiG, DL.isD, DL.isAnyG, DL.isAny, DL.isInsG, DL.lenG_str, DL.lenG_lst, DL.lenG_tup, DL.lenG_dK, DL.lenG_scr, DL.intG_int, DL.intG_bl, DL.intG_str, DL.strG, DL.absG, DL.two, DL.listG2_dK, DL.listG2_lst, DL.listG2_tup, DL.listG2_scr, DL.tupleG_lst, DL.tupleG_tup, DL.allG, DL.dSlice, DL.dNo, DL.dPart, DL.cutD_str, DL.cutD_lst, DL.cutD_tup, DL.dGNil, DL.dGCons, DL.dTupT, DL.dIter, DL.dRange1, DL.dRange2, DL.atI_0, DL.atI_1, DL.atI_2, DL.atI_3, DL.atI_4, DL.hotAt, DL.putAt, DL.SV.put, DL.dAppend, DL.dExtend, DL.sStore, DL.storeD, DL.sFldD, DL.putFD, DL.dFld, DL.splitG, DL.partitionG, DL.startsG, DL.joinG, DL.dClear, List.getElem?_cons_zero, List.getElem?_cons_succ, List.set_cons_zero, List.set_cons_succ, List.length_cons, List.length_nil, List.map_cons, List.map_nil, List.replicate_succ, List.replicate_zero, List.nil_append, List.cons_append, Nat.reduceAdd, Nat.reduceSub, Bool.bne_false, Bool.bne_true, Bool.not_true, Bool.not_false, decide_eq_true_eq, Bool.false_eq_true, reduceIte, and_true, true_and, if_true, if_false, decide_true, decide_false, List.length_range, Int.toNat_natCast, Nat.zero_add]
theorem pre_snoc (r : Str) (w k : Nat) : (codesS r w ++ (List.range k).flatMap fun k => (codesS r (k + 1)).map hat) ++ (codesS r (k + 1)).map hat = codesS r w ++ (List.range (k + 1)).flatMap fun k => (codesS r (k + 1)).map hat := by
  rw [List.range_succ, List.flatMap_append, List.append_assoc]
  simp
theorem pre_le {r : Str} {w k : Nat} (s : Sz r w) (hk : k ≤ 3) : (codesS r w ++ (List.range k).flatMap fun k => (codesS r (k + 1)).map hat).length ≤ 1200 := by
  have h4 := s.four
  have h3 := s.w3
  rw [List.length_append, List.length_flatMap]
  have e : ∀ j, ((codesS r (j + 1)).map hat).length = (codesS r (j + 1)).length := fun j => List.length_map ..
  have c0 := codesS_len r w h4 (by omega)
  have c1 := codesS_len r 1 h4 (by omega)
  have c2 := codesS_len r 2 h4 (by omega)
  have c3 := codesS_len r 3 h4 (by omega)
  obtain h | h | h | h : k = 0 ∨ k = 1 ∨ k = 2 ∨ k = 3 := by omega
  all_goals subst h; simp [List.range_succ]; omega
theorem fit' {n : Nat} (h : n ≤ 10000) : n ≤ sizeLine := Nat.le_trans h (by decide)
theorem names_loop {r : Str} {w : Nat} {D' : DEnds} (s : Sz r w) : ∀ (m k : Nat) (v : Option SV), k + m = w - 1 →
    (∀ v, D'.nx [some (.imm (.str r)), some (.imm (.int w)), some (.own (.lst ((preNames r w).map .str))), v, none]) →
    forGo (dSet 3) (sDrop (dExtend 2 (dFz (dLc (dIter (dFz (dCallN M_codes_of_length (dCons (dVar 0) (dCons (dVar 3) dNil))))) [4] (dSet 4) dYes (dBin addD (dC (.str "^")) (dVar 4)))))) ((List.range' k m).map fun (i : Nat) => .int (1 + (i : Int))) D'
      [some (.imm (.str r)), some (.imm (.int w)), some (.own (.lst ((codesS r w ++ (List.range k).flatMap fun k => (codesS r (k + 1)).map hat).map .str))), v, none] := by
  intro m
  induction m with
  | zero =>
    intro k v hk h
    have e : k = w - 1 := by omega
    subst e
    exact h v
  | succ m ih =>
    intro k v hk h
    rw [List.range'_succ]
    simp only [List.map_cons]
    unfold forGo
    simp only [DL.dVar, DL.dC, DL.dBin, DL.dUn, DL.dTest, DL.dIf, DL.dAnd, DL.dOr, DL.dNot, DL.dAndV, DL.dOrV, DL.dNotV, DL.dChain, DL.dNil, DL.dCons, DL.dTup, DL.dLst, DL.dDK, DL.dFz, DL.dCallL, DL.dCallP, DL.dCallN, DL.dCallT, DL.dCallTN, DL.dMake, DL.dProp, DL.dMeth, DL.dFmt, DL.dJs, DL.look, DL.lookL, DL.frz, DL.frzL, DL.startD, DL.startT, DL.sSeq, DL.sIf, DL.sRet, DL.sRetNew, DL.sRetN, DL.sAsg, DL.sNew, DL.sDrop, DL.sNext, DL.sPar, DL.sFor, DL.dSet, DL.endsP, DL.endsN, DL.endsT, DL.endsTN, DL.SV.toD, DL.Cell.toD, DL.isTy_str, DL.ixD_lst, DL.ixD_tup, DL.ixD_str, DL.ixD_dKs, DL.ixD_dKi, DL.inG_dKs, DL.inG_sign, DL.eqG_int, DL.eqG_str, DL.eqG_bl, DL.addD_int, DL.addD_str, DL.addD_lst, DL.addD_tup, DL.intD_int, DL.cmpD_int, DL.cmpD_str, DL.negD, DL.isNG1, DL.isN, DL.isiG, DL.isD, DL.isAnyG, DL.isAny, DL.isInsG, DL.lenG_str, DL.lenG_lst, DL.lenG_tup, DL.lenG_dK, DL.lenG_scr, DL.intG_int, DL.intG_bl, DL.intG_str, DL.strG, DL.absG, DL.two, DL.listG2_dK, DL.listG2_lst, DL.listG2_tup, DL.listG2_scr, DL.tupleG_lst, DL.tupleG_tup, DL.allG, DL.dSlice, DL.dNo, DL.dPart, DL.cutD_str, DL.cutD_lst, DL.cutD_tup, DL.dGNil, DL.dGCons, DL.dTupT, DL.dIter, DL.dRange1, DL.dRange2, DL.atI_0, DL.atI_1, DL.atI_2, DL.atI_3, DL.atI_4, DL.hotAt, DL.putAt, DL.SV.put, DL.dAppend, DL.dExtend, DL.sStore, DL.storeD, DL.sFldD, DL.putFD, DL.dFld, DL.splitG, DL.partitionG, DL.startsG, DL.joinG, DL.dClear, List.getElem?_cons_zero, List.getElem?_cons_succ, List.set_cons_zero, List.set_cons_succ, List.length_cons, List.length_nil, List.map_cons, List.map_nil, List.replicate_succ, List.replicate_zero, List.nil_append, List.cons_append, Nat.reduceAdd, Nat.reduceSub, Bool.bne_false, Bool.bne_true, Bool.not_true, Bool.not_false, decide_eq_true_eq, Bool.false_eq_true, reduceIte, and_true, true_and, if_true, if_false, decide_true, decide_false, dLc]
    have h3 := s.w3
    have hz := codesS_len r (k + 1) s.four (by omega)
    refine ⟨_, ⟨r, k + 1, s.four, by omega, ?_, rfl⟩, ?_⟩
    · rw [show ((k + 1 : Nat) : Int) = 1 + (k : Int) by omega]
    simp only [DL.dVar, DL.dC, DL.dBin, DL.dUn, DL.dTest, DL.dIf, DL.dAnd, DL.dOr, DL.dNot, DL.dAndV, DL.dOrV, DL.dNotV, DL.dChain, DL.dNil, DL.dCons, DL.dTup, DL.dLst, DL.dDK, DL.dFz, DL.dCallL, DL.dCallP, DL.dCallN, DL.dCallT, DL.dCallTN, DL.dMake, DL.dProp, DL.dMeth, DL.dFmt, DL.dJs, DL.look, DL.lookL, DL.frz, DL.frzL, DL.startD, DL.startT, DL.sSeq, DL.sIf, DL.sRet, DL.sRetNew, DL.sRetN, DL.sAsg, DL.sNew, DL.sDrop, DL.sNext, DL.sPar, DL.sFor, DL.dSet, DL.endsP, DL.endsN, DL.endsT, DL.endsTN, DL.SV.toD, DL.Cell.toD, DL.isTy_str, DL.ixD_lst, DL.ixD_tup, DL.ixD_str, DL.ixD_dKs, DL.ixD_dKi, DL.inG_dKs, DL.inG_sign, DL.eqG_int, DL.eqG_str, DL.eqG_bl, DL.addD_int, DL.addD_str, DL.addD_lst, DL.addD_tup, DL.intD_int, DL.cmpD_int, DL.cmpD_str, DL.negD, DL.isNG1, DL.isN, DL.isiG, DL.isD, DL.isAnyG, DL.isAny, DL.isInsG, DL.lenG_str, DL.lenG_lst, DL.lenG_tup, DL.lenG_dK, DL.lenG_scr, DL.intG_int, DL.intG_bl, DL.intG_str, DL.strG, DL.absG, DL.two, DL.listG2_dK, DL.listG2_lst, DL.listG2_tup, DL.listG2_scr, DL.tupleG_lst, DL.tupleG_tup, DL.allG, DL.dSlice, DL.dNo, DL.dPart, DL.cutD_str, DL.cutD_lst, DL.cutD_tup, DL.dGNil, DL.dGCons, DL.dTupT, DL.dIter, DL.dRange1, DL.dRange2, DL.atI_0, DL.atI_1, DL.atI_2, DL.atI_3, DL.atI_4, DL.hotAt, DL.putAt, DL.SV.put, DL.dAppend, DL.dExtend, DL.sStore, DL.storeD, DL.sFldD, DL.putFD, DL.dFld, DL.splitG, DL.partitionG, DL.startsG, DL.joinG, DL.dClear, List.getElem?_cons_zero, List.getElem?_cons_succ, List.set_cons_zero, List.set_cons_succ, List.length_cons, List.length_nil, List.map_cons, List.map_nil, List.replicate_succ, List.replicate_zero, List.nil_append, List.cons_append, Nat.reduceAdd, Nat.reduceSub, Bool.bne_false, Bool.bne_true, Bool.not_true, Bool.not_false, decide_eq_true_eq, Bool.false_eq_true, reduceIte, and_true, true_and, if_true, if_false, decide_true, decide_false]
    refine lcGo_map (f := fun d => match d with | .str a => .str (hat a) | _ => d) rfl _ _ (fun d hd Q2 Q3 h3 => ?_) ?_ ?_
    · obtain ⟨a, ha, e⟩ := List.mem_map.mp hd
      subst e
      have hl := (codesS_mem ha).1
      simp only [DL.dVar, DL.dC, DL.dBin, DL.dUn, DL.dTest, DL.dIf, DL.dAnd, DL.dOr, DL.dNot, DL.dAndV, DL.dOrV, DL.dNotV, DL.dChain, DL.dNil, DL.dCons, DL.dTup, DL.dLst, DL.dDK, DL.dFz, DL.dCallL, DL.dCallP, DL.dCallN, DL.dCallT, DL.dCallTN, DL.dMake, DL.dProp, DL.dMeth, DL.dFmt, DL.dJs, DL.look, DL.lookL, DL.frz, DL.frzL, DL.startD, DL.startT, DL.sSeq, DL.sIf, DL.sRet, DL.sRetNew, DL.sRetN, DL.sAsg, DL.sNew, DL.sDrop, DL.sNext, DL.sPar, DL.sFor, DL.dSet, DL.endsP, DL.endsN, DL.endsT, DL.endsTN, DL.SV.toD, DL.Cell.toD, DL.isTy_str, DL.ixD_lst, DL.ixD_tup, DL.ixD_str, DL.ixD_dKs, DL.ixD_dKi, DL.inG_dKs, DL.inG_sign, DL.eqG_int, DL.eqG_str, DL.eqG_bl, DL.addD_int, DL.addD_str, DL.addD_lst, DL.addD_tup, DL.intD_int, DL.cmpD_int, DL.cmpD_str, DL.negD, DL.isNG1, DL.isN, DL.isiG, DL.isD, DL.isAnyG, DL.isAny, DL.isInsG, DL.lenG_str, DL.lenG_lst, DL.lenG_tup, DL.lenG_dK, DL.lenG_scr, DL.intG_int, DL.intG_bl, DL.intG_str, DL.strG, DL.absG, DL.two, DL.listG2_dK, DL.listG2_lst, DL.listG2_tup, DL.listG2_scr, DL.tupleG_lst, DL.tupleG_tup, DL.allG, DL.dSlice, DL.dNo, DL.dPart, DL.cutD_str, DL.cutD_lst, DL.cutD_tup, DL.dGNil, DL.dGCons, DL.dTupT, DL.dIter, DL.dRange1, DL.dRange2, DL.atI_0, DL.atI_1, DL.atI_2, DL.atI_3, DL.atI_4, DL.hotAt, DL.putAt, DL.SV.put, DL.dAppend, DL.dExtend, DL.sStore, DL.storeD, DL.sFldD, DL.putFD, DL.dFld, DL.splitG, DL.partitionG, DL.startsG, DL.joinG, DL.dClear, List.getElem?_cons_zero, List.getElem?_cons_succ, List.set_cons_zero, List.set_cons_succ, List.length_cons, List.length_nil, List.map_cons, List.map_nil, List.replicate_succ, List.replicate_zero, List.nil_append, List.cons_append, Nat.reduceAdd, Nat.reduceSub, Bool.bne_false, Bool.bne_true, Bool.not_true, Bool.not_false, decide_eq_true_eq, Bool.false_eq_true, reduceIte, and_true, true_and, if_true, if_false, decide_true, decide_false, dYes, wipeE, back]
      refine ⟨fit ?_, h3⟩
      rw [len_tl, len_tl, hl]
      have : tl (Str.ofString "^") = [94] := by decide +kernel
      rw [this]
      simp; omega
    · rw [List.length_map]; simp; exact fit (by omega)
    · simp only [DL.dVar, DL.dC, DL.dBin, DL.dUn, DL.dTest, DL.dIf, DL.dAnd, DL.dOr, DL.dNot, DL.dAndV, DL.dOrV, DL.dNotV, DL.dChain, DL.dNil, DL.dCons, DL.dTup, DL.dLst, DL.dDK, DL.dFz, DL.dCallL, DL.dCallP, DL.dCallN, DL.dCallT, DL.dCallTN, DL.dMake, DL.dProp, DL.dMeth, DL.dFmt, DL.dJs, DL.look, DL.lookL, DL.frz, DL.frzL, DL.startD, DL.startT, DL.sSeq, DL.sIf, DL.sRet, DL.sRetNew, DL.sRetN, DL.sAsg, DL.sNew, DL.sDrop, DL.sNext, DL.sPar, DL.sFor, DL.dSet, DL.endsP, DL.endsN, DL.endsT, DL.endsTN, DL.SV.toD, DL.Cell.toD, DL.isTy_str, DL.ixD_lst, DL.ixD_tup, DL.ixD_str, DL.ixD_dKs, DL.ixD_dKi, DL.inG_dKs, DL.inG_sign, DL.eqG_int, DL.eqG_str, DL.eqG_bl, DL.addD_int, DL.addD_str, DL.addD_lst, DL.addD_tup, DL.intD_int, DL.cmpD_int, DL.cmpD_str, DL.negD, DL.isNG1, DL.isN, DL.isiG, DL.isD, DL.isAnyG, DL.isAny, DL.isInsG, DL.lenG_str, DL.lenG_lst, DL.lenG_tup, DL.lenG_dK, DL.lenG_scr, DL.intG_int, DL.intG_bl, DL.intG_str, DL.strG, DL.absG, DL.two, DL.listG2_dK, DL.listG2_lst, DL.listG2_tup, DL.listG2_scr, DL.tupleG_lst, DL.tupleG_tup, DL.allG, DL.dSlice, DL.dNo, DL.dPart, DL.cutD_str, DL.cutD_lst, DL.cutD_tup, DL.dGNil, DL.dGCons, DL.dTupT, DL.dIter, DL.dRange1, DL.dRange2, DL.atI_0, DL.atI_1, DL.atI_2, DL.atI_3, DL.atI_4, DL.hotAt, DL.putAt, DL.SV.put, DL.dAppend, DL.dExtend, DL.sStore, DL.storeD, DL.sFldD, DL.putFD, DL.dFld, DL.splitG, DL.partitionG, DL.startsG, DL.joinG, DL.dClear, List.getElem?_cons_zero, List.getElem?_cons_succ, List.set_cons_zero, List.set_cons_succ, List.length_cons, List.length_nil, List.map_cons, List.map_nil, List.replicate_succ, List.replicate_zero, List.nil_append, List.cons_append, Nat.reduceAdd, Nat.reduceSub, Bool.bne_false, Bool.bne_true, Bool.not_true, Bool.not_false, decide_eq_true_eq, Bool.false_eq_true, reduceIte, and_true, true_and, if_true, if_false, decide_true, decide_false]
      have hp := pre_le (k := k) s (by omega)
      refine ⟨?_, ?_⟩
      · rw [List.length_map, List.length_map, List.length_map]
        exact fit' (by omega)
      · have e : (((codesS r w ++ (List.range k).flatMap fun k => (codesS r (k + 1)).map hat).map D.str) ++ ((codesS r (k + 1)).map D.str).map fun d => match d with | .str a => .str (hat a) | _ => d) = (codesS r w ++ (List.range (k + 1)).flatMap fun k => (codesS r (k + 1)).map hat).map D.str := by
          rw [← pre_snoc]; simp [Function.comp_def]
        rw [e]
        exact ih (k + 1) _ (by omega) h
theorem h_stretch_names : ∀ ds r, M_stretch_names ds r → t_stretch_names (endsP r) (startD N_stretch_names.length ds) := by
  rintro _ _ ⟨r, w, s, rfl, rfl⟩
  have h3 := s.w3
  have h1 := s.w1
  simp only [DL.dVar, DL.dC, DL.dBin, DL.dUn, DL.dTest, DL.dIf, DL.dAnd, DL.dOr, DL.dNot, DL.dAndV, DL.dOrV, DL.dNotV, DL.dChain, DL.dNil, DL.dCons, DL.dTup, DL.dLst, DL.dDK, DL.dFz, DL.dCallL, DL.dCallP, DL.dCallN, DL.dCallT, DL.dCallTN, DL.dMake, DL.dProp, DL.dMeth, DL.dFmt, DL.dJs, DL.look, DL.lookL, DL.frz, DL.frzL, DL.startD, DL.startT, DL.sSeq, DL.sIf, DL.sRet, DL.sRetNew, DL.sRetN, DL.sAsg, DL.sNew, DL.sDrop, DL.sNext, DL.sPar, DL.sFor, DL.dSet, DL.endsP, DL.endsN, DL.endsT, DL.endsTN, DL.SV.toD, DL.Cell.toD, DL.isTy_str, DL.ixD_lst, DL.ixD_tup, DL.ixD_str, DL.ixD_dKs, DL.ixD_dKi, DL.inG_dKs, DL.inG_sign, DL.eqG_int, DL.eqG_str, DL.eqG_bl, DL.addD_int, DL.addD_str, DL.addD_lst, DL.addD_tup, DL.intD_int, DL.cmpD_int, DL.cmpD_str, DL.negD, DL.isNG1, DL.isN, DL.isiG, DL.isD, DL.isAnyG, DL.isAny, DL.isInsG, DL.lenG_str, DL.lenG_lst, DL.lenG_tup, DL.lenG_dK, DL.lenG_scr, DL.intG_int, DL.intG_bl, DL.intG_str, DL.strG, DL.absG, DL.two, DL.listG2_dK, DL.listG2_lst, DL.listG2_tup, DL.listG2_scr, DL.tupleG_lst, DL.tupleG_tup, DL.allG, DL.dSlice, DL.dNo, DL.dPart, DL.cutD_str, DL.cutD_lst, DL.cutD_tup, DL.dGNil, DL.dGCons, DL.dTupT, DL.dIter, DL.dRange1, DL.dRange2, DL.atI_0, DL.atI_1, DL.atI_2, DL.atI_3, DL.atI_4, DL.hotAt, DL.putAt, DL.SV.put, DL.dAppend, DL.dExtend, DL.sStore, DL.storeD, DL.sFldD, DL.putFD, DL.dFld, DL.splitG, DL.partitionG, DL.startsG, DL.joinG, DL.dClear, List.getElem?_cons_zero, List.getElem?_cons_succ, List.set_cons_zero, List.set_cons_succ, List.length_cons, List.length_nil, List.map_cons, List.map_nil, List.replicate_succ, List.replicate_zero, List.nil_append, List.cons_append, Nat.reduceAdd, Nat.reduceSub, Bool.bne_false, Bool.bne_true, Bool.not_true, Bool.not_false, decide_eq_true_eq, Bool.false_eq_true, reduceIte, and_true, true_and, if_true, if_false, decide_true, decide_false, t_stretch_names, rangeD]
  refine ⟨_, ⟨r, w, s.four, h3, rfl, rfl⟩, ?_⟩
  refine ⟨by omega, ?_⟩
  have e0 : ((w : Int) - 1).toNat = w - 1 := by omega
  rw [e0, List.range_eq_range']
  have := names_loop (r := r) (w := w) s (w - 1) 0 none (D' := { nx := sRet (dCallL sortedG2 (dCons (dVar 2) dNil)) (endsP (.lst ((names r w).map .str))), rt := (endsP (.lst ((names r w).map .str))).rt, rn := (endsP (.lst ((names r w).map .str))).rn }) (by omega) ?_
  · simp only [List.range_zero, List.flatMap_nil, List.append_nil] at this
    simp only [DL.dVar, DL.dC, DL.dBin, DL.dUn, DL.dTest, DL.dIf, DL.dAnd, DL.dOr, DL.dNot, DL.dAndV, DL.dOrV, DL.dNotV, DL.dChain, DL.dNil, DL.dCons, DL.dTup, DL.dLst, DL.dDK, DL.dFz, DL.dCallL, DL.dCallP, DL.dCallN, DL.dCallT, DL.dCallTN, DL.dMake, DL.dProp, DL.dMeth, DL.dFmt, DL.dJs, DL.look, DL.lookL, DL.frz, DL.frzL, DL.startD, DL.startT, DL.sSeq, DL.sIf, DL.sRet, DL.sRetNew, DL.sRetN, DL.sAsg, DL.sNew, DL.sDrop, DL.sNext, DL.sPar, DL.sFor, DL.dSet, DL.endsP, DL.endsN, DL.endsT, DL.endsTN, DL.SV.toD, DL.Cell.toD, DL.isTy_str, DL.ixD_lst, DL.ixD_tup, DL.ixD_str, DL.ixD_dKs, DL.ixD_dKi, DL.inG_dKs, DL.inG_sign, DL.eqG_int, DL.eqG_str, DL.eqG_bl, DL.addD_int, DL.addD_str, DL.addD_lst, DL.addD_tup, DL.intD_int, DL.cmpD_int, DL.cmpD_str, DL.negD, DL.isNG1, DL.isN, DL.isiG, DL.isD, DL.isAnyG, DL.isAny, DL.isInsG, DL.lenG_str, DL.lenG_lst, DL.lenG_tup, DL.lenG_dK, DL.lenG_scr, DL.intG_int, DL.intG_bl, DL.intG_str, DL.strG, DL.absG, DL.two, DL.listG2_dK, DL.listG2_lst, DL.listG2_tup, DL.listG2_scr, DL.tupleG_lst, DL.tupleG_tup, DL.allG, DL.dSlice, DL.dNo, DL.dPart, DL.cutD_str, DL.cutD_lst, DL.cutD_tup, DL.dGNil, DL.dGCons, DL.dTupT, DL.dIter, DL.dRange1, DL.dRange2, DL.atI_0, DL.atI_1, DL.atI_2, DL.atI_3, DL.atI_4, DL.hotAt, DL.putAt, DL.SV.put, DL.dAppend, DL.dExtend, DL.sStore, DL.storeD, DL.sFldD, DL.putFD, DL.dFld, DL.splitG, DL.partitionG, DL.startsG, DL.joinG, DL.dClear, List.getElem?_cons_zero, List.getElem?_cons_succ, List.set_cons_zero, List.set_cons_succ, List.length_cons, List.length_nil, List.map_cons, List.map_nil, List.replicate_succ, List.replicate_zero, List.nil_append, List.cons_append, Nat.reduceAdd, Nat.reduceSub, Bool.bne_false, Bool.bne_true, Bool.not_true, Bool.not_false, decide_eq_true_eq, Bool.false_eq_true, reduceIte, and_true, true_and, if_true, if_false, decide_true, decide_false] at this ⊢
    exact this
  · intro v
    simp only [DL.dVar, DL.dC, DL.dBin, DL.dUn, DL.dTest, DL.dIf, DL.dAnd, DL.dOr, DL.dNot, DL.dAndV, DL.dOrV, DL.dNotV, DL.dChain, DL.dNil, DL.dCons, DL.dTup, DL.dLst, DL.dDK, DL.dFz, DL.dCallL, DL.dCallP, DL.dCallN, DL.dCallT, DL.dCallTN, DL.dMake, DL.dProp, DL.dMeth, DL.dFmt, DL.dJs, DL.look, DL.lookL, DL.frz, DL.frzL, DL.startD, DL.startT, DL.sSeq, DL.sIf, DL.sRet, DL.sRetNew, DL.sRetN, DL.sAsg, DL.sNew, DL.sDrop, DL.sNext, DL.sPar, DL.sFor, DL.dSet, DL.endsP, DL.endsN, DL.endsT, DL.endsTN, DL.SV.toD, DL.Cell.toD, DL.isTy_str, DL.ixD_lst, DL.ixD_tup, DL.ixD_str, DL.ixD_dKs, DL.ixD_dKi, DL.inG_dKs, DL.inG_sign, DL.eqG_int, DL.eqG_str, DL.eqG_bl, DL.addD_int, DL.addD_str, DL.addD_lst, DL.addD_tup, DL.intD_int, DL.cmpD_int, DL.cmpD_str, DL.negD, DL.isNG1, DL.isN, DL.isiG, DL.isD, DL.isAnyG, DL.isAny, DL.isInsG, DL.lenG_str, DL.lenG_lst, DL.lenG_tup, DL.lenG_dK, DL.lenG_scr, DL.intG_int, DL.intG_bl, DL.intG_str, DL.strG, DL.absG, DL.two, DL.listG2_dK, DL.listG2_lst, DL.listG2_tup, DL.listG2_scr, DL.tupleG_lst, DL.tupleG_tup, DL.allG, DL.dSlice, DL.dNo, DL.dPart, DL.cutD_str, DL.cutD_lst, DL.cutD_tup, DL.dGNil, DL.dGCons, DL.dTupT, DL.dIter, DL.dRange1, DL.dRange2, DL.atI_0, DL.atI_1, DL.atI_2, DL.atI_3, DL.atI_4, DL.hotAt, DL.putAt, DL.SV.put, DL.dAppend, DL.dExtend, DL.sStore, DL.storeD, DL.sFldD, DL.putFD, DL.dFld, DL.splitG, DL.partitionG, DL.startsG, DL.joinG, DL.dClear, List.getElem?_cons_zero, List.getElem?_cons_succ, List.set_cons_zero, List.set_cons_succ, List.length_cons, List.length_nil, List.map_cons, List.map_nil, List.replicate_succ, List.replicate_zero, List.nil_append, List.cons_append, Nat.reduceAdd, Nat.reduceSub, Bool.bne_false, Bool.bne_true, Bool.not_true, Bool.not_false, decide_eq_true_eq, Bool.false_eq_true, reduceIte, and_true, true_and, if_true, if_false, decide_true, decide_false, sortedG2, sortedG, strsD_map, List.length_map]
    exact ⟨pre_len s, rfl⟩
end K86

set_option Elab.async false
set_option linter.all false
set_option maxRecDepth 100000
set_option maxHeartbeats 2000000
namespace K86
open PySem L2 DL TL
theorem keys_nodup {r : Str} {w : Nat} {t : Tab} (h : TabOk r w t) : (t.map fun p => (Sum.inr p.1 : Key)).Nodup := by
  have := names_nodup h.toSz
  rw [← h.keys] at this
  rw [show (t.map fun p => (Sum.inr p.1 : Key)) = (t.map (·.1)).map Sum.inr by rw [List.map_map]; rfl]
  exact List.pairwise_map.mpr (this.imp fun q e => q (by injection e))
theorem tab_get {r : Str} {w : Nat} {t : Tab} (h : TabOk r w t) {p : Str × Int × Int} (hp : p ∈ t) : dget (tabD t) (.inr p.1) = some (frD p.2) :=
  dget_map (fk := fun p : Str × Int × Int => (Sum.inr p.1 : Key)) (fv := fun p => frD p.2) (keys_nodup h) hp
theorem tab_len {r : Str} {w : Nat} {t : Tab} (h : TabOk r w t) : t.length = (names r w).length := by rw [← h.keys, List.length_map]
theorem tab_lt {r : Str} {w : Nat} {t : Tab} (h : TabOk r w t) : t.length < 64 := by rw [tab_len h]; exact names_len h.toSz
theorem name_in {r : Str} {w : Nat} {t : Tab} (h : TabOk r w t) {x : Str} (hx : x ∈ names r w) : ∃ p ∈ t, p.1 = x := by
  rw [← h.keys] at hx
  exact List.mem_map.mp hx
theorem map_const_rep {α : Type} (l : List α) (d : D) : l.map (fun _ => d) = List.replicate l.length d := by induction l <;> simp_all [List.replicate_succ]
theorem h_is_table : ∀ ds r, M_is_table ds r → t_is_table (endsP r) (startD N_is_table.length ds) := by
  rintro _ _ ⟨r, w, t, h, rfl, rfl⟩
  have hl : (tabD t).length = ((names r w).map D.str).length := by unfold tabD; rw [List.length_map, List.length_map, tab_len h]
  simp only [DL.dVar, DL.dC, DL.dBin, DL.dUn, DL.dTest, DL.dIf, DL.dAnd, DL.dOr, DL.dNot, DL.dAndV, DL.dOrV, DL.dNotV, DL.dChain, DL.dNil, DL.dCons, DL.dTup, DL.dLst, DL.dDK, DL.dFz, DL.dCallL, DL.dCallP, DL.dCallN, DL.dCallT, DL.dCallTN, DL.dMake, DL.dProp, DL.dMeth, DL.dFmt, DL.dJs, DL.look, DL.lookL, DL.frz, DL.frzL, DL.startD, DL.startT, DL.sSeq, DL.sIf, DL.sRet, DL.sRetNew, DL.sRetN, DL.sAsg, DL.sNew, DL.sDrop, DL.sNext, DL.sPar, DL.sFor, DL.dSet, DL.endsP, DL.endsN, DL.endsT, DL.endsTN, DL.SV.toD, DL.Cell.toD, DL.isTy_str, DL.ixD_lst, DL.ixD_tup, DL.ixD_str, DL.ixD_dKs, DL.ixD_dKi, DL.inG_dKs, DL.inG_sign, DL.eqG_int, DL.eqG_str, DL.eqG_bl, DL.addD_int, DL.addD_str, DL.addD_lst, DL.addD_tup, DL.intD_int, DL.cmpD_int, DL.cmpD_str, DL.negD, DL.isNG1, DL.isN, DL.isiG, DL.isD, DL.isAnyG, DL.isAny, DL.isInsG, DL.lenG_str, DL.lenG_lst, DL.lenG_tup, DL.lenG_dK, DL.lenG_scr, DL.intG_int, DL.intG_bl, DL.intG_str, DL.strG, DL.absG, DL.two, DL.listG2_dK, DL.listG2_lst, DL.listG2_tup, DL.listG2_scr, DL.tupleG_lst, DL.tupleG_tup, DL.allG, DL.dSlice, DL.dNo, DL.dPart, DL.cutD_str, DL.cutD_lst, DL.cutD_tup, DL.dGNil, DL.dGCons, DL.dTupT, DL.dIter, DL.dRange1, DL.dRange2, DL.atI_0, DL.atI_1, DL.atI_2, DL.atI_3, DL.atI_4, DL.hotAt, DL.putAt, DL.SV.put, DL.dAppend, DL.dExtend, DL.sStore, DL.storeD, DL.sFldD, DL.putFD, DL.dFld, DL.splitG, DL.partitionG, DL.startsG, DL.joinG, DL.dClear, List.getElem?_cons_zero, List.getElem?_cons_succ, List.set_cons_zero, List.set_cons_succ, List.length_cons, List.length_nil, List.map_cons, List.map_nil, List.replicate_succ, List.replicate_zero, List.nil_append, List.cons_append, Nat.reduceAdd, Nat.reduceSub, Bool.bne_false, Bool.bne_true, Bool.not_true, Bool.not_false, decide_eq_true_eq, Bool.false_eq_true, reduceIte, and_true, true_and, if_true, if_false, decide_true, decide_false, t_is_table, hl]
  simp only [DL.dVar, DL.dC, DL.dBin, DL.dUn, DL.dTest, DL.dIf, DL.dAnd, DL.dOr, DL.dNot, DL.dAndV, DL.dOrV, DL.dNotV, DL.dChain, DL.dNil, DL.dCons, DL.dTup, DL.dLst, DL.dDK, DL.dFz, DL.dCallL, DL.dCallP, DL.dCallN, DL.dCallT, DL.dCallTN, DL.dMake, DL.dProp, DL.dMeth, DL.dFmt, DL.dJs, DL.look, DL.lookL, DL.frz, DL.frzL, DL.startD, DL.startT, DL.sSeq, DL.sIf, DL.sRet, DL.sRetNew, DL.sRetN, DL.sAsg, DL.sNew, DL.sDrop, DL.sNext, DL.sPar, DL.sFor, DL.dSet, DL.endsP, DL.endsN, DL.endsT, DL.endsTN, DL.SV.toD, DL.Cell.toD, DL.isTy_str, DL.ixD_lst, DL.ixD_tup, DL.ixD_str, DL.ixD_dKs, DL.ixD_dKi, DL.inG_dKs, DL.inG_sign, DL.eqG_int, DL.eqG_str, DL.eqG_bl, DL.addD_int, DL.addD_str, DL.addD_lst, DL.addD_tup, DL.intD_int, DL.cmpD_int, DL.cmpD_str, DL.negD, DL.isNG1, DL.isN, DL.isiG, DL.isD, DL.isAnyG, DL.isAny, DL.isInsG, DL.lenG_str, DL.lenG_lst, DL.lenG_tup, DL.lenG_dK, DL.lenG_scr, DL.intG_int, DL.intG_bl, DL.intG_str, DL.strG, DL.absG, DL.two, DL.listG2_dK, DL.listG2_lst, DL.listG2_tup, DL.listG2_scr, DL.tupleG_lst, DL.tupleG_tup, DL.allG, DL.dSlice, DL.dNo, DL.dPart, DL.cutD_str, DL.cutD_lst, DL.cutD_tup, DL.dGNil, DL.dGCons, DL.dTupT, DL.dIter, DL.dRange1, DL.dRange2, DL.atI_0, DL.atI_1, DL.atI_2, DL.atI_3, DL.atI_4, DL.hotAt, DL.putAt, DL.SV.put, DL.dAppend, DL.dExtend, DL.sStore, DL.storeD, DL.sFldD, DL.putFD, DL.dFld, DL.splitG, DL.partitionG, DL.startsG, DL.joinG, DL.dClear, List.getElem?_cons_zero, List.getElem?_cons_succ, List.set_cons_zero, List.set_cons_succ, List.length_cons, List.length_nil, List.map_cons, List.map_nil, List.replicate_succ, List.replicate_zero, List.nil_append, List.cons_append, Nat.reduceAdd, Nat.reduceSub, Bool.bne_false, Bool.bne_true, Bool.not_true, Bool.not_false, decide_eq_true_eq, Bool.false_eq_true, reduceIte, and_true, true_and, if_true, if_false, decide_true, decide_false, dLc]
  refine lcGo_map (f := fun _ => .bl true) rfl _ _ (fun d hd Q2 Q3 h3 => ?_) ?_ ?_
  · obtain ⟨x, hx, e⟩ := List.mem_map.mp hd
    subst e
    obtain ⟨p, hp, e⟩ := name_in h hx
    subst e
    have hg := tab_get h hp
    simp only [DL.dVar, DL.dC, DL.dBin, DL.dUn, DL.dTest, DL.dIf, DL.dAnd, DL.dOr, DL.dNot, DL.dAndV, DL.dOrV, DL.dNotV, DL.dChain, DL.dNil, DL.dCons, DL.dTup, DL.dLst, DL.dDK, DL.dFz, DL.dCallL, DL.dCallP, DL.dCallN, DL.dCallT, DL.dCallTN, DL.dMake, DL.dProp, DL.dMeth, DL.dFmt, DL.dJs, DL.look, DL.lookL, DL.frz, DL.frzL, DL.startD, DL.startT, DL.sSeq, DL.sIf, DL.sRet, DL.sRetNew, DL.sRetN, DL.sAsg, DL.sNew, DL.sDrop, DL.sNext, DL.sPar, DL.sFor, DL.dSet, DL.endsP, DL.endsN, DL.endsT, DL.endsTN, DL.SV.toD, DL.Cell.toD, DL.isTy_str, DL.ixD_lst, DL.ixD_tup, DL.ixD_str, DL.ixD_dKs, DL.ixD_dKi, DL.inG_dKs, DL.inG_sign, DL.eqG_int, DL.eqG_str, DL.eqG_bl, DL.addD_int, DL.addD_str, DL.addD_lst, DL.addD_tup, DL.intD_int, DL.cmpD_int, DL.cmpD_str, DL.negD, DL.isNG1, DL.isN, DL.isiG, DL.isD, DL.isAnyG, DL.isAny, DL.isInsG, DL.lenG_str, DL.lenG_lst, DL.lenG_tup, DL.lenG_dK, DL.lenG_scr, DL.intG_int, DL.intG_bl, DL.intG_str, DL.strG, DL.absG, DL.two, DL.listG2_dK, DL.listG2_lst, DL.listG2_tup, DL.listG2_scr, DL.tupleG_lst, DL.tupleG_tup, DL.allG, DL.dSlice, DL.dNo, DL.dPart, DL.cutD_str, DL.cutD_lst, DL.cutD_tup, DL.dGNil, DL.dGCons, DL.dTupT, DL.dIter, DL.dRange1, DL.dRange2, DL.atI_0, DL.atI_1, DL.atI_2, DL.atI_3, DL.atI_4, DL.hotAt, DL.putAt, DL.SV.put, DL.dAppend, DL.dExtend, DL.sStore, DL.storeD, DL.sFldD, DL.putFD, DL.dFld, DL.splitG, DL.partitionG, DL.startsG, DL.joinG, DL.dClear, List.getElem?_cons_zero, List.getElem?_cons_succ, List.set_cons_zero, List.set_cons_succ, List.length_cons, List.length_nil, List.map_cons, List.map_nil, List.replicate_succ, List.replicate_zero, List.nil_append, List.cons_append, Nat.reduceAdd, Nat.reduceSub, Bool.bne_false, Bool.bne_true, Bool.not_true, Bool.not_false, decide_eq_true_eq, Bool.false_eq_true, reduceIte, and_true, true_and, if_true, if_false, decide_true, decide_false, dYes, wipeE, back, hg, Option.isSome_some]
    exact ⟨_, ⟨p.2, h.good p hp, rfl, rfl⟩, h3⟩
  · rw [List.length_map, List.length_nil]
    have := names_len h.toSz
    exact fit (by omega)
  · rw [map_const_rep]
    simp only [DL.dVar, DL.dC, DL.dBin, DL.dUn, DL.dTest, DL.dIf, DL.dAnd, DL.dOr, DL.dNot, DL.dAndV, DL.dOrV, DL.dNotV, DL.dChain, DL.dNil, DL.dCons, DL.dTup, DL.dLst, DL.dDK, DL.dFz, DL.dCallL, DL.dCallP, DL.dCallN, DL.dCallT, DL.dCallTN, DL.dMake, DL.dProp, DL.dMeth, DL.dFmt, DL.dJs, DL.look, DL.lookL, DL.frz, DL.frzL, DL.startD, DL.startT, DL.sSeq, DL.sIf, DL.sRet, DL.sRetNew, DL.sRetN, DL.sAsg, DL.sNew, DL.sDrop, DL.sNext, DL.sPar, DL.sFor, DL.dSet, DL.endsP, DL.endsN, DL.endsT, DL.endsTN, DL.SV.toD, DL.Cell.toD, DL.isTy_str, DL.ixD_lst, DL.ixD_tup, DL.ixD_str, DL.ixD_dKs, DL.ixD_dKi, DL.inG_dKs, DL.inG_sign, DL.eqG_int, DL.eqG_str, DL.eqG_bl, DL.addD_int, DL.addD_str, DL.addD_lst, DL.addD_tup, DL.intD_int, DL.cmpD_int, DL.cmpD_str, DL.negD, DL.isNG1, DL.isN, DL.isiG, DL.isD, DL.isAnyG, DL.isAny, DL.isInsG, DL.lenG_str, DL.lenG_lst, DL.lenG_tup, DL.lenG_dK, DL.lenG_scr, DL.intG_int, DL.intG_bl, DL.intG_str, DL.strG, DL.absG, DL.two, DL.listG2_dK, DL.listG2_lst, DL.listG2_tup, DL.listG2_scr, DL.tupleG_lst, DL.tupleG_tup, DL.allG, DL.dSlice, DL.dNo, DL.dPart, DL.cutD_str, DL.cutD_lst, DL.cutD_tup, DL.dGNil, DL.dGCons, DL.dTupT, DL.dIter, DL.dRange1, DL.dRange2, DL.atI_0, DL.atI_1, DL.atI_2, DL.atI_3, DL.atI_4, DL.hotAt, DL.putAt, DL.SV.put, DL.dAppend, DL.dExtend, DL.sStore, DL.storeD, DL.sFldD, DL.putFD, DL.dFld, DL.splitG, DL.partitionG, DL.startsG, DL.joinG, DL.dClear, List.getElem?_cons_zero, List.getElem?_cons_succ, List.set_cons_zero, List.set_cons_succ, List.length_cons, List.length_nil, List.map_cons, List.map_nil, List.replicate_succ, List.replicate_zero, List.nil_append, List.cons_append, Nat.reduceAdd, Nat.reduceSub, Bool.bne_false, Bool.bne_true, Bool.not_true, Bool.not_false, decide_eq_true_eq, Bool.false_eq_true, reduceIte, and_true, true_and, if_true, if_false, decide_true, decide_false, blsD_true]
    simp
theorem ne_rw : ¬ (Str.ofString "rows" = Str.ofString "width") := by decide +kernel
theorem ne_rk : ¬ (Str.ofString "rows" = Str.ofString "kept_table") := by decide +kernel
theorem ne_wk : ¬ (Str.ofString "width" = Str.ofString "kept_table") := by decide +kernel
def fkS (d : D) : Key := match d with | .str x => .inr x | _ => .inl 0
theorem h_Prices_init : ∀ c ds r c', M_Prices_init c ds r c' → t_Prices_init (endsT r c') (startT N_Prices_init.length c ds) := by
  rintro _ _ _ _ ⟨r, w, t, h, rfl, rfl, rfl, rfl⟩
  have h1 := h.w1
  have h3 := h.w3
  simp only [DL.dVar, DL.dC, DL.dBin, DL.dUn, DL.dTest, DL.dIf, DL.dAnd, DL.dOr, DL.dNot, DL.dAndV, DL.dOrV, DL.dNotV, DL.dChain, DL.dNil, DL.dCons, DL.dTup, DL.dLst, DL.dDK, DL.dFz, DL.dCallL, DL.dCallP, DL.dCallN, DL.dCallT, DL.dCallTN, DL.dMake, DL.dProp, DL.dMeth, DL.dFmt, DL.dJs, DL.look, DL.lookL, DL.frz, DL.frzL, DL.startD, DL.startT, DL.sSeq, DL.sIf, DL.sRet, DL.sRetNew, DL.sRetN, DL.sAsg, DL.sNew, DL.sDrop, DL.sNext, DL.sPar, DL.sFor, DL.dSet, DL.endsP, DL.endsN, DL.endsT, DL.endsTN, DL.SV.toD, DL.Cell.toD, DL.isTy_str, DL.ixD_lst, DL.ixD_tup, DL.ixD_str, DL.ixD_dKs, DL.ixD_dKi, DL.inG_dKs, DL.inG_sign, DL.eqG_int, DL.eqG_str, DL.eqG_bl, DL.addD_int, DL.addD_str, DL.addD_lst, DL.addD_tup, DL.intD_int, DL.cmpD_int, DL.cmpD_str, DL.negD, DL.isNG1, DL.isN, DL.isiG, DL.isD, DL.isAnyG, DL.isAny, DL.isInsG, DL.lenG_str, DL.lenG_lst, DL.lenG_tup, DL.lenG_dK, DL.lenG_scr, DL.intG_int, DL.intG_bl, DL.intG_str, DL.strG, DL.absG, DL.two, DL.listG2_dK, DL.listG2_lst, DL.listG2_tup, DL.listG2_scr, DL.tupleG_lst, DL.tupleG_tup, DL.allG, DL.dSlice, DL.dNo, DL.dPart, DL.cutD_str, DL.cutD_lst, DL.cutD_tup, DL.dGNil, DL.dGCons, DL.dTupT, DL.dIter, DL.dRange1, DL.dRange2, DL.atI_0, DL.atI_1, DL.atI_2, DL.atI_3, DL.atI_4, DL.hotAt, DL.putAt, DL.SV.put, DL.dAppend, DL.dExtend, DL.sStore, DL.storeD, DL.sFldD, DL.putFD, DL.dFld, DL.splitG, DL.partitionG, DL.startsG, DL.joinG, DL.dClear, List.getElem?_cons_zero, List.getElem?_cons_succ, List.set_cons_zero, List.set_cons_succ, List.length_cons, List.length_nil, List.map_cons, List.map_nil, List.replicate_succ, List.replicate_zero, List.nil_append, List.cons_append, Nat.reduceAdd, Nat.reduceSub, Bool.bne_false, Bool.bne_true, Bool.not_true, Bool.not_false, decide_eq_true_eq, Bool.false_eq_true, reduceIte, and_true, true_and, if_true, if_false, decide_true, decide_false, t_Prices_init]
  refine ⟨_, ⟨r, h.toRowsOk, rfl, rfl⟩, ?_⟩
  simp only [DL.dVar, DL.dC, DL.dBin, DL.dUn, DL.dTest, DL.dIf, DL.dAnd, DL.dOr, DL.dNot, DL.dAndV, DL.dOrV, DL.dNotV, DL.dChain, DL.dNil, DL.dCons, DL.dTup, DL.dLst, DL.dDK, DL.dFz, DL.dCallL, DL.dCallP, DL.dCallN, DL.dCallT, DL.dCallTN, DL.dMake, DL.dProp, DL.dMeth, DL.dFmt, DL.dJs, DL.look, DL.lookL, DL.frz, DL.frzL, DL.startD, DL.startT, DL.sSeq, DL.sIf, DL.sRet, DL.sRetNew, DL.sRetN, DL.sAsg, DL.sNew, DL.sDrop, DL.sNext, DL.sPar, DL.sFor, DL.dSet, DL.endsP, DL.endsN, DL.endsT, DL.endsTN, DL.SV.toD, DL.Cell.toD, DL.isTy_str, DL.ixD_lst, DL.ixD_tup, DL.ixD_str, DL.ixD_dKs, DL.ixD_dKi, DL.inG_dKs, DL.inG_sign, DL.eqG_int, DL.eqG_str, DL.eqG_bl, DL.addD_int, DL.addD_str, DL.addD_lst, DL.addD_tup, DL.intD_int, DL.cmpD_int, DL.cmpD_str, DL.negD, DL.isNG1, DL.isN, DL.isiG, DL.isD, DL.isAnyG, DL.isAny, DL.isInsG, DL.lenG_str, DL.lenG_lst, DL.lenG_tup, DL.lenG_dK, DL.lenG_scr, DL.intG_int, DL.intG_bl, DL.intG_str, DL.strG, DL.absG, DL.two, DL.listG2_dK, DL.listG2_lst, DL.listG2_tup, DL.listG2_scr, DL.tupleG_lst, DL.tupleG_tup, DL.allG, DL.dSlice, DL.dNo, DL.dPart, DL.cutD_str, DL.cutD_lst, DL.cutD_tup, DL.dGNil, DL.dGCons, DL.dTupT, DL.dIter, DL.dRange1, DL.dRange2, DL.atI_0, DL.atI_1, DL.atI_2, DL.atI_3, DL.atI_4, DL.hotAt, DL.putAt, DL.SV.put, DL.dAppend, DL.dExtend, DL.sStore, DL.storeD, DL.sFldD, DL.putFD, DL.dFld, DL.splitG, DL.partitionG, DL.startsG, DL.joinG, DL.dClear, List.getElem?_cons_zero, List.getElem?_cons_succ, List.set_cons_zero, List.set_cons_succ, List.length_cons, List.length_nil, List.map_cons, List.map_nil, List.replicate_succ, List.replicate_zero, List.nil_append, List.cons_append, Nat.reduceAdd, Nat.reduceSub, Bool.bne_false, Bool.bne_true, Bool.not_true, Bool.not_false, decide_eq_true_eq, Bool.false_eq_true, reduceIte, and_true, true_and, if_true, if_false, decide_true, decide_false]
  refine ⟨_, ⟨w, by omega, by omega, rfl, rfl⟩, ?_⟩
  simp only [DL.dVar, DL.dC, DL.dBin, DL.dUn, DL.dTest, DL.dIf, DL.dAnd, DL.dOr, DL.dNot, DL.dAndV, DL.dOrV, DL.dNotV, DL.dChain, DL.dNil, DL.dCons, DL.dTup, DL.dLst, DL.dDK, DL.dFz, DL.dCallL, DL.dCallP, DL.dCallN, DL.dCallT, DL.dCallTN, DL.dMake, DL.dProp, DL.dMeth, DL.dFmt, DL.dJs, DL.look, DL.lookL, DL.frz, DL.frzL, DL.startD, DL.startT, DL.sSeq, DL.sIf, DL.sRet, DL.sRetNew, DL.sRetN, DL.sAsg, DL.sNew, DL.sDrop, DL.sNext, DL.sPar, DL.sFor, DL.dSet, DL.endsP, DL.endsN, DL.endsT, DL.endsTN, DL.SV.toD, DL.Cell.toD, DL.isTy_str, DL.ixD_lst, DL.ixD_tup, DL.ixD_str, DL.ixD_dKs, DL.ixD_dKi, DL.inG_dKs, DL.inG_sign, DL.eqG_int, DL.eqG_str, DL.eqG_bl, DL.addD_int, DL.addD_str, DL.addD_lst, DL.addD_tup, DL.intD_int, DL.cmpD_int, DL.cmpD_str, DL.negD, DL.isNG1, DL.isN, DL.isiG, DL.isD, DL.isAnyG, DL.isAny, DL.isInsG, DL.lenG_str, DL.lenG_lst, DL.lenG_tup, DL.lenG_dK, DL.lenG_scr, DL.intG_int, DL.intG_bl, DL.intG_str, DL.strG, DL.absG, DL.two, DL.listG2_dK, DL.listG2_lst, DL.listG2_tup, DL.listG2_scr, DL.tupleG_lst, DL.tupleG_tup, DL.allG, DL.dSlice, DL.dNo, DL.dPart, DL.cutD_str, DL.cutD_lst, DL.cutD_tup, DL.dGNil, DL.dGCons, DL.dTupT, DL.dIter, DL.dRange1, DL.dRange2, DL.atI_0, DL.atI_1, DL.atI_2, DL.atI_3, DL.atI_4, DL.hotAt, DL.putAt, DL.SV.put, DL.dAppend, DL.dExtend, DL.sStore, DL.storeD, DL.sFldD, DL.putFD, DL.dFld, DL.splitG, DL.partitionG, DL.startsG, DL.joinG, DL.dClear, List.getElem?_cons_zero, List.getElem?_cons_succ, List.set_cons_zero, List.set_cons_succ, List.length_cons, List.length_nil, List.map_cons, List.map_nil, List.replicate_succ, List.replicate_zero, List.nil_append, List.cons_append, Nat.reduceAdd, Nat.reduceSub, Bool.bne_false, Bool.bne_true, Bool.not_true, Bool.not_false, decide_eq_true_eq, Bool.false_eq_true, reduceIte, and_true, true_and, if_true, if_false, decide_true, decide_false]
  refine ⟨_, ⟨r, w, h.toSz, rfl, rfl⟩, ?_⟩
  refine ⟨_, ⟨r, w, t, h, rfl, rfl⟩, ?_⟩
  simp only [DL.dVar, DL.dC, DL.dBin, DL.dUn, DL.dTest, DL.dIf, DL.dAnd, DL.dOr, DL.dNot, DL.dAndV, DL.dOrV, DL.dNotV, DL.dChain, DL.dNil, DL.dCons, DL.dTup, DL.dLst, DL.dDK, DL.dFz, DL.dCallL, DL.dCallP, DL.dCallN, DL.dCallT, DL.dCallTN, DL.dMake, DL.dProp, DL.dMeth, DL.dFmt, DL.dJs, DL.look, DL.lookL, DL.frz, DL.frzL, DL.startD, DL.startT, DL.sSeq, DL.sIf, DL.sRet, DL.sRetNew, DL.sRetN, DL.sAsg, DL.sNew, DL.sDrop, DL.sNext, DL.sPar, DL.sFor, DL.dSet, DL.endsP, DL.endsN, DL.endsT, DL.endsTN, DL.SV.toD, DL.Cell.toD, DL.isTy_str, DL.ixD_lst, DL.ixD_tup, DL.ixD_str, DL.ixD_dKs, DL.ixD_dKi, DL.inG_dKs, DL.inG_sign, DL.eqG_int, DL.eqG_str, DL.eqG_bl, DL.addD_int, DL.addD_str, DL.addD_lst, DL.addD_tup, DL.intD_int, DL.cmpD_int, DL.cmpD_str, DL.negD, DL.isNG1, DL.isN, DL.isiG, DL.isD, DL.isAnyG, DL.isAny, DL.isInsG, DL.lenG_str, DL.lenG_lst, DL.lenG_tup, DL.lenG_dK, DL.lenG_scr, DL.intG_int, DL.intG_bl, DL.intG_str, DL.strG, DL.absG, DL.two, DL.listG2_dK, DL.listG2_lst, DL.listG2_tup, DL.listG2_scr, DL.tupleG_lst, DL.tupleG_tup, DL.allG, DL.dSlice, DL.dNo, DL.dPart, DL.cutD_str, DL.cutD_lst, DL.cutD_tup, DL.dGNil, DL.dGCons, DL.dTupT, DL.dIter, DL.dRange1, DL.dRange2, DL.atI_0, DL.atI_1, DL.atI_2, DL.atI_3, DL.atI_4, DL.hotAt, DL.putAt, DL.SV.put, DL.dAppend, DL.dExtend, DL.sStore, DL.storeD, DL.sFldD, DL.putFD, DL.dFld, DL.splitG, DL.partitionG, DL.startsG, DL.joinG, DL.dClear, List.getElem?_cons_zero, List.getElem?_cons_succ, List.set_cons_zero, List.set_cons_succ, List.length_cons, List.length_nil, List.map_cons, List.map_nil, List.replicate_succ, List.replicate_zero, List.nil_append, List.cons_append, Nat.reduceAdd, Nat.reduceSub, Bool.bne_false, Bool.bne_true, Bool.not_true, Bool.not_false, decide_eq_true_eq, Bool.false_eq_true, reduceIte, and_true, true_and, if_true, if_false, decide_true, decide_false, ne_rw, ne_rk, ne_wk, dDc]
  refine ⟨by decide, by decide, ?_⟩
  refine dcGo_map (fk := fkS) (fv := fun d => (dget (tabD t) (fkS d)).getD .non) rfl _ _ (fun d hd Q2 Q3 h3 => ?_) ?_ ?_ ?_
  · obtain ⟨x, hx, e⟩ := List.mem_map.mp hd
    subst e
    obtain ⟨p, hp, e⟩ := name_in h hx
    subst e
    have hg := tab_get h hp
    simp only [DL.dVar, DL.dC, DL.dBin, DL.dUn, DL.dTest, DL.dIf, DL.dAnd, DL.dOr, DL.dNot, DL.dAndV, DL.dOrV, DL.dNotV, DL.dChain, DL.dNil, DL.dCons, DL.dTup, DL.dLst, DL.dDK, DL.dFz, DL.dCallL, DL.dCallP, DL.dCallN, DL.dCallT, DL.dCallTN, DL.dMake, DL.dProp, DL.dMeth, DL.dFmt, DL.dJs, DL.look, DL.lookL, DL.frz, DL.frzL, DL.startD, DL.startT, DL.sSeq, DL.sIf, DL.sRet, DL.sRetNew, DL.sRetN, DL.sAsg, DL.sNew, DL.sDrop, DL.sNext, DL.sPar, DL.sFor, DL.dSet, DL.endsP, DL.endsN, DL.endsT, DL.endsTN, DL.SV.toD, DL.Cell.toD, DL.isTy_str, DL.ixD_lst, DL.ixD_tup, DL.ixD_str, DL.ixD_dKs, DL.ixD_dKi, DL.inG_dKs, DL.inG_sign, DL.eqG_int, DL.eqG_str, DL.eqG_bl, DL.addD_int, DL.addD_str, DL.addD_lst, DL.addD_tup, DL.intD_int, DL.cmpD_int, DL.cmpD_str, DL.negD, DL.isNG1, DL.isN, DL.isiG, DL.isD, DL.isAnyG, DL.isAny, DL.isInsG, DL.lenG_str, DL.lenG_lst, DL.lenG_tup, DL.lenG_dK, DL.lenG_scr, DL.intG_int, DL.intG_bl, DL.intG_str, DL.strG, DL.absG, DL.two, DL.listG2_dK, DL.listG2_lst, DL.listG2_tup, DL.listG2_scr, DL.tupleG_lst, DL.tupleG_tup, DL.allG, DL.dSlice, DL.dNo, DL.dPart, DL.cutD_str, DL.cutD_lst, DL.cutD_tup, DL.dGNil, DL.dGCons, DL.dTupT, DL.dIter, DL.dRange1, DL.dRange2, DL.atI_0, DL.atI_1, DL.atI_2, DL.atI_3, DL.atI_4, DL.hotAt, DL.putAt, DL.SV.put, DL.dAppend, DL.dExtend, DL.sStore, DL.storeD, DL.sFldD, DL.putFD, DL.dFld, DL.splitG, DL.partitionG, DL.startsG, DL.joinG, DL.dClear, List.getElem?_cons_zero, List.getElem?_cons_succ, List.set_cons_zero, List.set_cons_succ, List.length_cons, List.length_nil, List.map_cons, List.map_nil, List.replicate_succ, List.replicate_zero, List.nil_append, List.cons_append, Nat.reduceAdd, Nat.reduceSub, Bool.bne_false, Bool.bne_true, Bool.not_true, Bool.not_false, decide_eq_true_eq, Bool.false_eq_true, reduceIte, and_true, true_and, if_true, if_false, decide_true, decide_false, dYes, wipeE, back, hg, fkS, keyD] at h3 ⊢
    exact h3
  · rw [List.length_map, List.length_nil]
    have := names_len h.toSz
    exact fit (by omega)
  · rw [List.map_nil, List.nil_append, List.map_map, ← h.keys, List.map_map]
    exact keys_nodup h
  · have e : ((names r w).map D.str).map (fun d => (fkS d, (dget (tabD t) (fkS d)).getD .non)) = tabD t := by
      rw [← h.keys, List.map_map, List.map_map]
      refine List.map_congr_left fun p hp => ?_
      show ((Sum.inr p.1 : Key), (dget (tabD t) (.inr p.1)).getD .non) = _
      rw [tab_get h hp]; rfl
    rw [List.nil_append, e]
    simp only [DL.dVar, DL.dC, DL.dBin, DL.dUn, DL.dTest, DL.dIf, DL.dAnd, DL.dOr, DL.dNot, DL.dAndV, DL.dOrV, DL.dNotV, DL.dChain, DL.dNil, DL.dCons, DL.dTup, DL.dLst, DL.dDK, DL.dFz, DL.dCallL, DL.dCallP, DL.dCallN, DL.dCallT, DL.dCallTN, DL.dMake, DL.dProp, DL.dMeth, DL.dFmt, DL.dJs, DL.look, DL.lookL, DL.frz, DL.frzL, DL.startD, DL.startT, DL.sSeq, DL.sIf, DL.sRet, DL.sRetNew, DL.sRetN, DL.sAsg, DL.sNew, DL.sDrop, DL.sNext, DL.sPar, DL.sFor, DL.dSet, DL.endsP, DL.endsN, DL.endsT, DL.endsTN, DL.SV.toD, DL.Cell.toD, DL.isTy_str, DL.ixD_lst, DL.ixD_tup, DL.ixD_str, DL.ixD_dKs, DL.ixD_dKi, DL.inG_dKs, DL.inG_sign, DL.eqG_int, DL.eqG_str, DL.eqG_bl, DL.addD_int, DL.addD_str, DL.addD_lst, DL.addD_tup, DL.intD_int, DL.cmpD_int, DL.cmpD_str, DL.negD, DL.isNG1, DL.isN, DL.isiG, DL.isD, DL.isAnyG, DL.isAny, DL.isInsG, DL.lenG_str, DL.lenG_lst, DL.lenG_tup, DL.lenG_dK, DL.lenG_scr, DL.intG_int, DL.intG_bl, DL.intG_str, DL.strG, DL.absG, DL.two, DL.listG2_dK, DL.listG2_lst, DL.listG2_tup, DL.listG2_scr, DL.tupleG_lst, DL.tupleG_tup, DL.allG, DL.dSlice, DL.dNo, DL.dPart, DL.cutD_str, DL.cutD_lst, DL.cutD_tup, DL.dGNil, DL.dGCons, DL.dTupT, DL.dIter, DL.dRange1, DL.dRange2, DL.atI_0, DL.atI_1, DL.atI_2, DL.atI_3, DL.atI_4, DL.hotAt, DL.putAt, DL.SV.put, DL.dAppend, DL.dExtend, DL.sStore, DL.storeD, DL.sFldD, DL.putFD, DL.dFld, DL.splitG, DL.partitionG, DL.startsG, DL.joinG, DL.dClear, List.getElem?_cons_zero, List.getElem?_cons_succ, List.set_cons_zero, List.set_cons_succ, List.length_cons, List.length_nil, List.map_cons, List.map_nil, List.replicate_succ, List.replicate_zero, List.nil_append, List.cons_append, Nat.reduceAdd, Nat.reduceSub, Bool.bne_false, Bool.bne_true, Bool.not_true, Bool.not_false, decide_eq_true_eq, Bool.false_eq_true, reduceIte, and_true, true_and, if_true, if_false, decide_true, decide_false, ne_rw, ne_rk, ne_wk]
    refine ⟨by decide, ?_⟩
    rfl
theorem bq_wr : (Str.ofString "width" == Str.ofString "rows") = false := by decide +kernel
theorem bq_kr : (Str.ofString "kept_table" == Str.ofString "rows") = false := by decide +kernel
theorem bq_kw : (Str.ofString "kept_table" == Str.ofString "width") = false := by decide +kernel
theorem look_rows (r : Str) (w : Int) (t : Tab) : (priceF r w t).lookup (Str.ofString "rows") = some (.str r) := by
  unfold priceF; rw [List.lookup_cons]; simp
theorem look_width (r : Str) (w : Int) (t : Tab) : (priceF r w t).lookup (Str.ofString "width") = some (.int w) := by
  unfold priceF; rw [List.lookup_cons, List.lookup_cons]; simp [bq_wr]
theorem look_kept (r : Str) (w : Int) (t : Tab) : (priceF r w t).lookup (Str.ofString "kept_table") = some (.dK (tabD t)) := by
  unfold priceF; rw [List.lookup_cons, List.lookup_cons, List.lookup_cons]; simp [bq_kr, bq_kw]
theorem h_Prices_table : ∀ ds c, M_Prices_table ds c → t_Prices_table (endsN c) (startD N_Prices_table.length ds) := by
  rintro _ _ ⟨r, w, t, h, rfl, rfl⟩
  simp only [DL.dVar, DL.dC, DL.dBin, DL.dUn, DL.dTest, DL.dIf, DL.dAnd, DL.dOr, DL.dNot, DL.dAndV, DL.dOrV, DL.dNotV, DL.dChain, DL.dNil, DL.dCons, DL.dTup, DL.dLst, DL.dDK, DL.dFz, DL.dCallL, DL.dCallP, DL.dCallN, DL.dCallT, DL.dCallTN, DL.dMake, DL.dProp, DL.dMeth, DL.dFmt, DL.dJs, DL.look, DL.lookL, DL.frz, DL.frzL, DL.startD, DL.startT, DL.sSeq, DL.sIf, DL.sRet, DL.sRetNew, DL.sRetN, DL.sAsg, DL.sNew, DL.sDrop, DL.sNext, DL.sPar, DL.sFor, DL.dSet, DL.endsP, DL.endsN, DL.endsT, DL.endsTN, DL.SV.toD, DL.Cell.toD, DL.isTy_str, DL.ixD_lst, DL.ixD_tup, DL.ixD_str, DL.ixD_dKs, DL.ixD_dKi, DL.inG_dKs, DL.inG_sign, DL.eqG_int, DL.eqG_str, DL.eqG_bl, DL.addD_int, DL.addD_str, DL.addD_lst, DL.addD_tup, DL.intD_int, DL.cmpD_int, DL.cmpD_str, DL.negD, DL.isNG1, DL.isN, DL.isiG, DL.isD, DL.isAnyG, DL.isAny, DL.isInsG, DL.lenG_str, DL.lenG_lst, DL.lenG_tup, DL.lenG_dK, DL.lenG_scr, DL.intG_int, DL.intG_bl, DL.intG_str, DL.strG, DL.absG, DL.two, DL.listG2_dK, DL.listG2_lst, DL.listG2_tup, DL.listG2_scr, DL.tupleG_lst, DL.tupleG_tup, DL.allG, DL.dSlice, DL.dNo, DL.dPart, DL.cutD_str, DL.cutD_lst, DL.cutD_tup, DL.dGNil, DL.dGCons, DL.dTupT, DL.dIter, DL.dRange1, DL.dRange2, DL.atI_0, DL.atI_1, DL.atI_2, DL.atI_3, DL.atI_4, DL.hotAt, DL.putAt, DL.SV.put, DL.dAppend, DL.dExtend, DL.sStore, DL.storeD, DL.sFldD, DL.putFD, DL.dFld, DL.splitG, DL.partitionG, DL.startsG, DL.joinG, DL.dClear, List.getElem?_cons_zero, List.getElem?_cons_succ, List.set_cons_zero, List.set_cons_succ, List.length_cons, List.length_nil, List.map_cons, List.map_nil, List.replicate_succ, List.replicate_zero, List.nil_append, List.cons_append, Nat.reduceAdd, Nat.reduceSub, Bool.bne_false, Bool.bne_true, Bool.not_true, Bool.not_false, decide_eq_true_eq, Bool.false_eq_true, reduceIte, and_true, true_and, if_true, if_false, decide_true, decide_false, t_Prices_table, dDc, dWalk, priceD, look_kept, walkD]
  refine dcGo_map (fk := fkS) (fv := fun d => (dget (tabD t) (fkS d)).getD .non) rfl _ _ (fun d hd Q2 Q3 h3 => ?_) ?_ ?_ ?_
  · obtain ⟨x, hx, e⟩ := List.mem_map.mp hd
    obtain ⟨p, hp, e2⟩ := List.mem_map.mp hx
    subst e2
    subst e
    have hg := tab_get h hp
    simp only [DL.dVar, DL.dC, DL.dBin, DL.dUn, DL.dTest, DL.dIf, DL.dAnd, DL.dOr, DL.dNot, DL.dAndV, DL.dOrV, DL.dNotV, DL.dChain, DL.dNil, DL.dCons, DL.dTup, DL.dLst, DL.dDK, DL.dFz, DL.dCallL, DL.dCallP, DL.dCallN, DL.dCallT, DL.dCallTN, DL.dMake, DL.dProp, DL.dMeth, DL.dFmt, DL.dJs, DL.look, DL.lookL, DL.frz, DL.frzL, DL.startD, DL.startT, DL.sSeq, DL.sIf, DL.sRet, DL.sRetNew, DL.sRetN, DL.sAsg, DL.sNew, DL.sDrop, DL.sNext, DL.sPar, DL.sFor, DL.dSet, DL.endsP, DL.endsN, DL.endsT, DL.endsTN, DL.SV.toD, DL.Cell.toD, DL.isTy_str, DL.ixD_lst, DL.ixD_tup, DL.ixD_str, DL.ixD_dKs, DL.ixD_dKi, DL.inG_dKs, DL.inG_sign, DL.eqG_int, DL.eqG_str, DL.eqG_bl, DL.addD_int, DL.addD_str, DL.addD_lst, DL.addD_tup, DL.intD_int, DL.cmpD_int, DL.cmpD_str, DL.negD, DL.isNG1, DL.isN, DL.isiG, DL.isD, DL.isAnyG, DL.isAny, DL.isInsG, DL.lenG_str, DL.lenG_lst, DL.lenG_tup, DL.lenG_dK, DL.lenG_scr, DL.intG_int, DL.intG_bl, DL.intG_str, DL.strG, DL.absG, DL.two, DL.listG2_dK, DL.listG2_lst, DL.listG2_tup, DL.listG2_scr, DL.tupleG_lst, DL.tupleG_tup, DL.allG, DL.dSlice, DL.dNo, DL.dPart, DL.cutD_str, DL.cutD_lst, DL.cutD_tup, DL.dGNil, DL.dGCons, DL.dTupT, DL.dIter, DL.dRange1, DL.dRange2, DL.atI_0, DL.atI_1, DL.atI_2, DL.atI_3, DL.atI_4, DL.hotAt, DL.putAt, DL.SV.put, DL.dAppend, DL.dExtend, DL.sStore, DL.storeD, DL.sFldD, DL.putFD, DL.dFld, DL.splitG, DL.partitionG, DL.startsG, DL.joinG, DL.dClear, List.getElem?_cons_zero, List.getElem?_cons_succ, List.set_cons_zero, List.set_cons_succ, List.length_cons, List.length_nil, List.map_cons, List.map_nil, List.replicate_succ, List.replicate_zero, List.nil_append, List.cons_append, Nat.reduceAdd, Nat.reduceSub, Bool.bne_false, Bool.bne_true, Bool.not_true, Bool.not_false, decide_eq_true_eq, Bool.false_eq_true, reduceIte, and_true, true_and, if_true, if_false, decide_true, decide_false, dYes, wipeE, back, hg, fkS, keyD, kD, look_kept] at h3 ⊢
    exact h3
  · rw [List.length_map, List.length_nil]
    have := tab_lt h
    unfold tabD
    rw [List.length_map]
    exact fit (by omega)
  · unfold tabD
    rw [List.map_nil, List.nil_append, List.map_map, List.map_map]
    exact keys_nodup h
  · have e : ((tabD t).map fun p => kD p.1).map (fun d => (fkS d, (dget (tabD t) (fkS d)).getD .non)) = tabD t := by
      rw [show ((tabD t).map fun p => kD p.1) = t.map fun p => .str p.1 by unfold tabD; rw [List.map_map]; rfl, List.map_map]
      refine List.map_congr_left fun p hp => ?_
      show ((Sum.inr p.1 : Key), (dget (tabD t) (.inr p.1)).getD .non) = _
      rw [tab_get h hp]; rfl
    rw [List.nil_append, e]
theorem toP_fr (p : Int × Int) : toP (frD p) = some (.tuple [.int p.1, .int p.2]) := rfl
theorem shaped_fr (p : Int × Int) : SeqAt.shaped (.tuple [.int p.1, .int p.2]) = true := by
  show ((PyData.tuple [.int p.1, .int p.2]).canLay0 && decide ((PyData.tuple [.int p.1, .int p.2]).depth ≤ 64)) = true
  simp [PyData.canLay0, PyData.canLayAll0, PyData.depth, PyData.depthAll]
theorem eqv_fr (p q : Int × Int) : PyData.eqv (.tuple [.int p.1, .int p.2]) (.tuple [.int q.1, .int q.2]) = decide (p = q) := by
  obtain ⟨a, b⟩ := p
  obtain ⟨c, d⟩ := q
  simp only [PyData.eqv, PyData.eqvAll]
  by_cases h1 : a = c <;> by_cases h2 : b = d <;> simp [h1, h2]
theorem hits_tab {m : List (Key × D)} : ∀ {s s' : Tab}, s.map (·.1) = s'.map (·.1) → (∀ p ∈ s', dget m (.inr p.1) = some (frD p.2)) → hitsD m (tabD s) = some (decide (s = s'))
  | [], [], _, _ => rfl
  | [], _ :: _, h, _ => by simp at h
  | _ :: _, [], h, _ => by simp at h
  | (x, p) :: s, (y, q) :: s', h, hg => by
    simp only [List.map_cons, List.cons.injEq] at h
    obtain ⟨e, h⟩ := h
    subst e
    have h1 := hg (x, q) List.mem_cons_self
    have ih := hits_tab h fun p hp => hg p (List.mem_cons_of_mem _ hp)
    show hitsD m ((Sum.inr x, frD p) :: tabD s) = _
    unfold hitsD
    simp only at h1
    rw [h1]
    simp only [toP_fr, ih, shaped_fr, eqv_fr, and_self, if_true]
    by_cases h2 : p = q <;> by_cases h3 : s = s' <;> simp [h2, h3]
theorem eqDK_tab {r : Str} {w : Nat} {t t' : Tab} (h : TabOk r w t) (h' : TabOk r w t') : eqDK (tabD t) (tabD t') = some (decide (t = t')) := by
  unfold eqDK
  rw [if_pos (by unfold tabD; rw [List.length_map, List.length_map, tab_len h, tab_len h'])]
  exact hits_tab (h.keys.trans h'.keys.symm) fun p hp => tab_get h' hp
theorem h_Prices_eq : ∀ ds r, M_Prices_eq ds r → t_Prices_eq (endsP r) (startD N_Prices_eq.length ds) := by
  rintro _ _ ⟨r, w, t, t', h, h', rfl, rfl⟩
  simp only [DL.dVar, DL.dC, DL.dBin, DL.dUn, DL.dTest, DL.dIf, DL.dAnd, DL.dOr, DL.dNot, DL.dAndV, DL.dOrV, DL.dNotV, DL.dChain, DL.dNil, DL.dCons, DL.dTup, DL.dLst, DL.dDK, DL.dFz, DL.dCallL, DL.dCallP, DL.dCallN, DL.dCallT, DL.dCallTN, DL.dMake, DL.dProp, DL.dMeth, DL.dFmt, DL.dJs, DL.look, DL.lookL, DL.frz, DL.frzL, DL.startD, DL.startT, DL.sSeq, DL.sIf, DL.sRet, DL.sRetNew, DL.sRetN, DL.sAsg, DL.sNew, DL.sDrop, DL.sNext, DL.sPar, DL.sFor, DL.dSet, DL.endsP, DL.endsN, DL.endsT, DL.endsTN, DL.SV.toD, DL.Cell.toD, DL.isTy_str, DL.ixD_lst, DL.ixD_tup, DL.ixD_str, DL.ixD_dKs, DL.ixD_dKi, DL.inG_dKs, DL.inG_sign, DL.eqG_int, DL.eqG_str, DL.eqG_bl, DL.addD_int, DL.addD_str, DL.addD_lst, DL.addD_tup, DL.intD_int, DL.cmpD_int, DL.cmpD_str, DL.negD, DL.isNG1, DL.isN, DL.isiG, DL.isD, DL.isAnyG, DL.isAny, DL.isInsG, DL.lenG_str, DL.lenG_lst, DL.lenG_tup, DL.lenG_dK, DL.lenG_scr, DL.intG_int, DL.intG_bl, DL.intG_str, DL.strG, DL.absG, DL.two, DL.listG2_dK, DL.listG2_lst, DL.listG2_tup, DL.listG2_scr, DL.tupleG_lst, DL.tupleG_tup, DL.allG, DL.dSlice, DL.dNo, DL.dPart, DL.cutD_str, DL.cutD_lst, DL.cutD_tup, DL.dGNil, DL.dGCons, DL.dTupT, DL.dIter, DL.dRange1, DL.dRange2, DL.atI_0, DL.atI_1, DL.atI_2, DL.atI_3, DL.atI_4, DL.hotAt, DL.putAt, DL.SV.put, DL.dAppend, DL.dExtend, DL.sStore, DL.storeD, DL.sFldD, DL.putFD, DL.dFld, DL.splitG, DL.partitionG, DL.startsG, DL.joinG, DL.dClear, List.getElem?_cons_zero, List.getElem?_cons_succ, List.set_cons_zero, List.set_cons_succ, List.length_cons, List.length_nil, List.map_cons, List.map_nil, List.replicate_succ, List.replicate_zero, List.nil_append, List.cons_append, Nat.reduceAdd, Nat.reduceSub, Bool.bne_false, Bool.bne_true, Bool.not_true, Bool.not_false, decide_eq_true_eq, Bool.false_eq_true, reduceIte, and_true, true_and, if_true, if_false, decide_true, decide_false, t_Prices_eq, priceD, look_rows, look_width, look_kept, eqAllG, eqKG, eqDK_tab h h']
end K86

set_option Elab.async false
set_option linter.all false
set_option maxRecDepth 100000
set_option maxHeartbeats 2000000
namespace K86
open PySem L2 DL TL
theorem tl_nl : tl (Str.ofString "\n") = [10] := by decide +kernel
theorem tl_sp : tl (Str.ofString " ") = [32] := by decide +kernel
theorem tl_mi : tl (Str.ofString "-") = [45] := by decide +kernel
theorem tl_ht : tl (Str.ofString "^") = [94] := by decide +kernel
theorem tl_pr : tl (Str.ofString "prices") = [112, 114, 105, 99, 101, 115] := by decide +kernel
theorem tl_ps : tl (Str.ofString "prices ") = [112, 114, 105, 99, 101, 115, 32] := by decide +kernel
theorem tl_fig : tl (Str.ofString "0123456789") = [48, 49, 50, 51, 52, 53, 54, 55, 56, 57] := by decide +kernel
theorem tl_emp : tl Str.empty = [] := rfl
/-- the signs of a number's text -/
theorem numS_signs {i : Int} {c : Nat} (h : c ∈ tl (numS i)) : c = 45 ∨ (48 ≤ c ∧ c ≤ 57) := by
  rcases Int.lt_or_le i 0 with z | z
  · obtain ⟨n, rfl⟩ : ∃ n : Nat, i = -(n : Int) := ⟨i.natAbs, by omega⟩
    rw [tl_numS_neg n (by omega)] at h
    rcases List.mem_cons.mp h with e | e
    · exact .inl e
    · exact .inr (numL_digits n c e)
  · obtain ⟨n, rfl⟩ := Int.eq_ofNat_of_zero_le z
    have h : c ∈ tl (numS (n : Int)) := h
    rw [tl_numS] at h
    exact .inr (numL_digits n c h)
theorem frS_signs {p : Int × Int} {c : Nat} (h : c ∈ tl (frS p)) : c = 45 ∨ (47 ≤ c ∧ c ≤ 57) := by
  unfold frS at h
  split at h
  · rcases numS_signs h with e | e <;> omega
  · rw [tl_append, tl_append] at h
    rcases List.mem_append.mp h with h | h
    · rcases List.mem_append.mp h with h | h
      · rcases numS_signs h with e | e <;> omega
      · have h : c ∈ tl (Str.ofString "/") := h
        rw [tl_slash] at h
        have := List.mem_singleton.mp h
        omega
    · rcases numS_signs h with e | e <;> omega
theorem frS_len {p : Int × Int} (h : FrOk p) : (frS p).length ≤ 107 := by
  have h1 := numS_len h.top
  have h2 := numS_len (i := p.2) (by have := h.pos; have := h.bot; omega)
  have h3 := len_1 tl_slash
  unfold frS
  split
  · omega
  · rw [app_len, app_len]
    show (numS p.1).length + (Str.ofString "/").length + _ ≤ _
    omega
theorem st_len {x : Str} (h : isSt x) : x.length ≤ 5 ∧ 1 ≤ x.length ∧ ∀ c ∈ tl x, 94 ≤ c ∧ c ≤ 122 := by
  rw [len_tl]
  rcases h with ⟨h1, h2, h3⟩ | ⟨l, e, h1, h2, h3⟩
  · exact ⟨by omega, List.length_pos_iff.mpr h1, fun c hc => by have := h3 c hc; omega⟩
  · rw [e]
    refine ⟨by rw [List.length_cons]; omega, by rw [List.length_cons]; omega, fun c hc => ?_⟩
    rcases List.mem_cons.mp hc with z | z
    · omega
    · have := h3 c z; omega
variable {r : Str} {w : Nat} {t : Tab}
theorem tab_st (h : TabOk r w t) {p : Str × Int × Int} (hp : p ∈ t) : isSt p.1 := names_st h.toSz (by rw [← h.keys]; exact List.mem_map.mpr ⟨p, hp, rfl⟩)
theorem line_len (h : TabOk r w t) {p : Str × Int × Int} (hp : p ∈ t) : (lineS p).length ≤ 113 := by
  have h1 := (st_len (tab_st h hp)).1
  have h2 := frS_len (h.good p hp)
  have h3 := len_1 tl_sp
  unfold lineS
  rw [app_len, app_len]
  show p.1.length + (Str.ofString " ").length + _ ≤ _
  omega
theorem w_sm (s : Sz r w) : ((w : Int)).natAbs < 10 ^ 52 := by have := s.w3; omega
theorem head_len (s : Sz r w) : (headS r w).length ≤ 113 := by
  have h1 := s.four
  rw [← len_tl] at h1
  have h2 := numS_len (w_sm s)
  have h3 := len_1 tl_sp
  have h4 : (Str.ofString "prices ").length = 7 := by rw [len_tl, tl_ps]; rfl
  unfold headS
  rw [app_len, app_len, app_len]
  show (Str.ofString "prices ").length + r.length + (Str.ofString " ").length + _ ≤ _
  omega
theorem line_nl {p : Str × Int × Int} (h : isSt p.1) : (10 : Nat) ∉ tl (lineS p) := fun z => by
  unfold lineS at z
  rw [tl_append, tl_append] at z
  rcases List.mem_append.mp z with z | z
  · rcases List.mem_append.mp z with z | z
    · have := (st_len h).2.2 _ z; omega
    · have z : (10 : Nat) ∈ tl (Str.ofString " ") := z
      rw [tl_sp] at z; simp at z
  · have := frS_signs z; omega
theorem head_nl (s : Sz r w) : (10 : Nat) ∉ tl (headS r w) := fun z => by
  unfold headS at z
  rw [tl_append, tl_append, tl_append] at z
  rcases List.mem_append.mp z with z | z
  · rcases List.mem_append.mp z with z | z
    · rcases List.mem_append.mp z with z | z
      · have z : (10 : Nat) ∈ tl (Str.ofString "prices ") := z
        rw [tl_ps] at z; simp at z
      · have := s.low _ z; omega
    · have z : (10 : Nat) ∈ tl (Str.ofString " ") := z
      rw [tl_sp] at z; simp at z
  · have := numS_signs z; omega
theorem lines_len (h : TabOk r w t) : ∀ x ∈ linesS r w t, x.length ≤ 113 := fun x hx => by
  rcases List.mem_cons.mp hx with e | e
  · subst e; exact head_len h.toSz
  · obtain ⟨p, hp, e⟩ := List.mem_map.mp e
    subst e; exact line_len h hp
theorem lines_many (h : TabOk r w t) : (linesS r w t).length ≤ 64 := by
  unfold linesS
  rw [List.length_cons, List.length_map]
  have := tab_lt h
  omega
theorem lines_sum (h : TabOk r w t) : ((linesS r w t).map (·.length)).sum ≤ 7232 := Nat.le_trans (sum_le _ 113 _ (lines_len h)) (by have := lines_many h; omega)
theorem join_ok (h : TabOk r w t) : ((linesS r w t).map (·.length)).sum + (linesS r w t).length * (Str.ofString "\n").length ≤ 8000 := by
  have h1 := lines_sum h
  have h2 := lines_many h
  have h3 := len_1 tl_nl
  rw [h3]; omega
theorem text_len (h : TabOk r w t) : (Txt.join (Str.ofString "\n") (linesS r w t)).length ≤ 8000 := Nat.le_trans (join_len _ _) (join_ok h)
theorem lines_ne (r : Str) (w : Int) (t : Tab) : linesS r w t ≠ [] := by unfold linesS; simp
theorem text_split (h : TabOk r w t) : Txt.split (textS r w t) (Str.ofString "\n") = linesS r w t ++ [Str.empty] := by
  have e : textS r w t = Txt.join (Str.ofString "\n") (linesS r w t ++ [Str.empty]) := (join_snoc _ _ (lines_ne r w t)).symm
  rw [e]
  refine split_join tl_nl (by decide +kernel) (by simp) fun p hp => ?_
  rcases List.mem_append.mp hp with hp | hp
  · rcases List.mem_cons.mp hp with e | e
    · subst e; exact head_nl h.toSz
    · obtain ⟨q, hq, e⟩ := List.mem_map.mp e
      subst e; exact line_nl (tab_st h hq)
  · rw [List.mem_singleton.mp hp]; simp [tl_emp]
theorem h_lines_of : ∀ ds r, M_lines_of ds r → t_lines_of (endsP r) (startD N_lines_of.length ds) := by
  rintro _ _ ⟨r, w, t, h, rfl, rfl⟩
  have hl : (textS r w t).length ≤ 8001 := by
    unfold textS
    rw [app_len]
    show (Txt.join (Str.ofString "\n") (linesS r w t)).length + (Str.ofString "\n").length ≤ 8001
    have := text_len h
    have := len_1 tl_nl
    omega
  have e1 : atI ((linesS r w t).map D.str ++ [D.str Str.empty]) (-1) = some (D.str Str.empty) := atI_last _ _
  have e2 : (linesS r w t ++ [Str.empty]).map D.str = (linesS r w t).map D.str ++ [D.str Str.empty] := by simp
  simp only [DL.dVar, DL.dC, DL.dBin, DL.dUn, DL.dTest, DL.dIf, DL.dAnd, DL.dOr, DL.dNot, DL.dAndV, DL.dOrV, DL.dNotV, DL.dChain, DL.dNil, DL.dCons, DL.dTup, DL.dLst, DL.dDK, DL.dFz, DL.dCallL, DL.dCallP, DL.dCallN, DL.dCallT, DL.dCallTN, DL.dMake, DL.dProp, DL.dMeth, DL.dFmt, DL.dJs, DL.look, DL.lookL, DL.frz, DL.frzL, DL.startD, DL.startT, DL.sSeq, DL.sIf, DL.sRet, DL.sRetNew, DL.sRetN, DL.sAsg, DL.sNew, DL.sDrop, DL.sNext, DL.sPar, DL.sFor, DL.dSet, DL.endsP, DL.endsN, DL.endsT, DL.endsTN, DL.SV.toD, DL.Cell.toD, DL.isTy_str, DL.ixD_lst, DL.ixD_tup, DL.ixD_str, DL.ixD_dKs, DL.ixD_dKi, DL.inG_dKs, DL.inG_sign, DL.eqG_int, DL.eqG_str, DL.eqG_bl, DL.addD_int, DL.addD_str, DL.addD_lst, DL.addD_tup, DL.intD_int, DL.cmpD_int, DL.cmpD_str, DL.negD, DL.isNG1, DL.isN, DL.isiG, DL.isD, DL.isAnyG, DL.isAny, DL.isInsG, DL.lenG_str, DL.lenG_lst, DL.lenG_tup, DL.lenG_dK, DL.lenG_scr, DL.intG_int, DL.intG_bl, DL.intG_str, DL.strG, DL.absG, DL.two, DL.listG2_dK, DL.listG2_lst, DL.listG2_tup, DL.listG2_scr, DL.tupleG_lst, DL.tupleG_tup, DL.allG, DL.dSlice, DL.dNo, DL.dPart, DL.cutD_str, DL.cutD_lst, DL.cutD_tup, DL.dGNil, DL.dGCons, DL.dTupT, DL.dIter, DL.dRange1, DL.dRange2, DL.atI_0, DL.atI_1, DL.atI_2, DL.atI_3, DL.atI_4, DL.hotAt, DL.putAt, DL.SV.put, DL.dAppend, DL.dExtend, DL.sStore, DL.storeD, DL.sFldD, DL.putFD, DL.dFld, DL.splitG, DL.partitionG, DL.startsG, DL.joinG, DL.dClear, List.getElem?_cons_zero, List.getElem?_cons_succ, List.set_cons_zero, List.set_cons_succ, List.length_cons, List.length_nil, List.map_cons, List.map_nil, List.replicate_succ, List.replicate_zero, List.nil_append, List.cons_append, Nat.reduceAdd, Nat.reduceSub, Bool.bne_false, Bool.bne_true, Bool.not_true, Bool.not_false, decide_eq_true_eq, Bool.false_eq_true, reduceIte, and_true, true_and, if_true, if_false, decide_true, decide_false, t_lines_of, text_split h, len_1 tl_nl, e2, e1, slice_last]
  refine ⟨rfl, fit' (by omega), ?_⟩
  decide
theorem h_is_stretch : ∀ ds r, M_is_stretch ds r → t_is_stretch (endsP r) (startD N_is_stretch.length ds) := by
  rintro _ _ ⟨x, h, rfl, rfl⟩
  have hl := (st_len h).1
  simp only [DL.dVar, DL.dC, DL.dBin, DL.dUn, DL.dTest, DL.dIf, DL.dAnd, DL.dOr, DL.dNot, DL.dAndV, DL.dOrV, DL.dNotV, DL.dChain, DL.dNil, DL.dCons, DL.dTup, DL.dLst, DL.dDK, DL.dFz, DL.dCallL, DL.dCallP, DL.dCallN, DL.dCallT, DL.dCallTN, DL.dMake, DL.dProp, DL.dMeth, DL.dFmt, DL.dJs, DL.look, DL.lookL, DL.frz, DL.frzL, DL.startD, DL.startT, DL.sSeq, DL.sIf, DL.sRet, DL.sRetNew, DL.sRetN, DL.sAsg, DL.sNew, DL.sDrop, DL.sNext, DL.sPar, DL.sFor, DL.dSet, DL.endsP, DL.endsN, DL.endsT, DL.endsTN, DL.SV.toD, DL.Cell.toD, DL.isTy_str, DL.ixD_lst, DL.ixD_tup, DL.ixD_str, DL.ixD_dKs, DL.ixD_dKi, DL.inG_dKs, DL.inG_sign, DL.eqG_int, DL.eqG_str, DL.eqG_bl, DL.addD_int, DL.addD_str, DL.addD_lst, DL.addD_tup, DL.intD_int, DL.cmpD_int, DL.cmpD_str, DL.negD, DL.isNG1, DL.isN, DL.isiG, DL.isD, DL.isAnyG, DL.isAny, DL.isInsG, DL.lenG_str, DL.lenG_lst, DL.lenG_tup, DL.lenG_dK, DL.lenG_scr, DL.intG_int, DL.intG_bl, DL.intG_str, DL.strG, DL.absG, DL.two, DL.listG2_dK, DL.listG2_lst, DL.listG2_tup, DL.listG2_scr, DL.tupleG_lst, DL.tupleG_tup, DL.allG, DL.dSlice, DL.dNo, DL.dPart, DL.cutD_str, DL.cutD_lst, DL.cutD_tup, DL.dGNil, DL.dGCons, DL.dTupT, DL.dIter, DL.dRange1, DL.dRange2, DL.atI_0, DL.atI_1, DL.atI_2, DL.atI_3, DL.atI_4, DL.hotAt, DL.putAt, DL.SV.put, DL.dAppend, DL.dExtend, DL.sStore, DL.storeD, DL.sFldD, DL.putFD, DL.dFld, DL.splitG, DL.partitionG, DL.startsG, DL.joinG, DL.dClear, List.getElem?_cons_zero, List.getElem?_cons_succ, List.set_cons_zero, List.set_cons_succ, List.length_cons, List.length_nil, List.map_cons, List.map_nil, List.replicate_succ, List.replicate_zero, List.nil_append, List.cons_append, Nat.reduceAdd, Nat.reduceSub, Bool.bne_false, Bool.bne_true, Bool.not_true, Bool.not_false, decide_eq_true_eq, Bool.false_eq_true, reduceIte, and_true, true_and, if_true, if_false, decide_true, decide_false, t_is_stretch, starts1 tl_ht]
  rcases h with ⟨h1, h2, h3⟩ | ⟨l, e, h1, h2, h3⟩
  · have hn : ¬ (tl x).head? = some 94 := fun z => by
      cases q : tl x with
      | nil => exact h1 q
      | cons c l =>
        rw [q] at z
        have := h3 c (by rw [q]; exact List.mem_cons_self)
        simp at z
        omega
    rw [if_neg hn]
    refine ⟨_, ⟨x, by omega, rfl, rfl⟩, ?_⟩
    rw [decide_eq_true ⟨h3, h1⟩]
  · rw [if_pos (by rw [e]; rfl)]
    have hc := tl_cut1 e
    simp only [DL.dVar, DL.dC, DL.dBin, DL.dUn, DL.dTest, DL.dIf, DL.dAnd, DL.dOr, DL.dNot, DL.dAndV, DL.dOrV, DL.dNotV, DL.dChain, DL.dNil, DL.dCons, DL.dTup, DL.dLst, DL.dDK, DL.dFz, DL.dCallL, DL.dCallP, DL.dCallN, DL.dCallT, DL.dCallTN, DL.dMake, DL.dProp, DL.dMeth, DL.dFmt, DL.dJs, DL.look, DL.lookL, DL.frz, DL.frzL, DL.startD, DL.startT, DL.sSeq, DL.sIf, DL.sRet, DL.sRetNew, DL.sRetN, DL.sAsg, DL.sNew, DL.sDrop, DL.sNext, DL.sPar, DL.sFor, DL.dSet, DL.endsP, DL.endsN, DL.endsT, DL.endsTN, DL.SV.toD, DL.Cell.toD, DL.isTy_str, DL.ixD_lst, DL.ixD_tup, DL.ixD_str, DL.ixD_dKs, DL.ixD_dKi, DL.inG_dKs, DL.inG_sign, DL.eqG_int, DL.eqG_str, DL.eqG_bl, DL.addD_int, DL.addD_str, DL.addD_lst, DL.addD_tup, DL.intD_int, DL.cmpD_int, DL.cmpD_str, DL.negD, DL.isNG1, DL.isN, DL.isiG, DL.isD, DL.isAnyG, DL.isAny, DL.isInsG, DL.lenG_str, DL.lenG_lst, DL.lenG_tup, DL.lenG_dK, DL.lenG_scr, DL.intG_int, DL.intG_bl, DL.intG_str, DL.strG, DL.absG, DL.two, DL.listG2_dK, DL.listG2_lst, DL.listG2_tup, DL.listG2_scr, DL.tupleG_lst, DL.tupleG_tup, DL.allG, DL.dSlice, DL.dNo, DL.dPart, DL.cutD_str, DL.cutD_lst, DL.cutD_tup, DL.dGNil, DL.dGCons, DL.dTupT, DL.dIter, DL.dRange1, DL.dRange2, DL.atI_0, DL.atI_1, DL.atI_2, DL.atI_3, DL.atI_4, DL.hotAt, DL.putAt, DL.SV.put, DL.dAppend, DL.dExtend, DL.sStore, DL.storeD, DL.sFldD, DL.putFD, DL.dFld, DL.splitG, DL.partitionG, DL.startsG, DL.joinG, DL.dClear, List.getElem?_cons_zero, List.getElem?_cons_succ, List.set_cons_zero, List.set_cons_succ, List.length_cons, List.length_nil, List.map_cons, List.map_nil, List.replicate_succ, List.replicate_zero, List.nil_append, List.cons_append, Nat.reduceAdd, Nat.reduceSub, Bool.bne_false, Bool.bne_true, Bool.not_true, Bool.not_false, decide_eq_true_eq, Bool.false_eq_true, reduceIte, and_true, true_and, if_true, if_false, decide_true, decide_false, fit (show x.length ≤ 1000 by omega)]
    have hl2 : (cutS x (some 1) none).length = l.length := by rw [len_tl, hc]
    refine ⟨_, ⟨_, by omega, rfl, rfl⟩, ?_⟩
    rw [hc, decide_eq_true ⟨h3, h1⟩]
theorem fig_mem (c : Nat) : c ∈ tl (Str.ofString "0123456789") ↔ 48 ≤ c ∧ c ≤ 57 := by
  rw [tl_fig]; simp; omega
theorem zero_str : Str.ofString "0" = ⟨#[48]⟩ := by decide +kernel
theorem h_number_of : ∀ ds r, M_number_of ds r → t_number_of (endsP r) (startD N_number_of.length ds) := by
  rintro _ _ ⟨n, hn, rfl, rfl⟩
  have h1 : (numS (n : Int)).length = (numL n).length := by rw [len_tl, tl_numS]
  have h2 := numL_len' hn
  have h3 := List.length_pos_iff.mpr (numL_ne n)
  have hi : PySem.intText? (numS (n : Int)) = some (n : Int) := int_num (by omega)
  simp only [DL.dVar, DL.dC, DL.dBin, DL.dUn, DL.dTest, DL.dIf, DL.dAnd, DL.dOr, DL.dNot, DL.dAndV, DL.dOrV, DL.dNotV, DL.dChain, DL.dNil, DL.dCons, DL.dTup, DL.dLst, DL.dDK, DL.dFz, DL.dCallL, DL.dCallP, DL.dCallN, DL.dCallT, DL.dCallTN, DL.dMake, DL.dProp, DL.dMeth, DL.dFmt, DL.dJs, DL.look, DL.lookL, DL.frz, DL.frzL, DL.startD, DL.startT, DL.sSeq, DL.sIf, DL.sRet, DL.sRetNew, DL.sRetN, DL.sAsg, DL.sNew, DL.sDrop, DL.sNext, DL.sPar, DL.sFor, DL.dSet, DL.endsP, DL.endsN, DL.endsT, DL.endsTN, DL.SV.toD, DL.Cell.toD, DL.isTy_str, DL.ixD_lst, DL.ixD_tup, DL.ixD_str, DL.ixD_dKs, DL.ixD_dKi, DL.inG_dKs, DL.inG_sign, DL.eqG_int, DL.eqG_str, DL.eqG_bl, DL.addD_int, DL.addD_str, DL.addD_lst, DL.addD_tup, DL.intD_int, DL.cmpD_int, DL.cmpD_str, DL.negD, DL.isNG1, DL.isN, DL.isiG, DL.isD, DL.isAnyG, DL.isAny, DL.isInsG, DL.lenG_str, DL.lenG_lst, DL.lenG_tup, DL.lenG_dK, DL.lenG_scr, DL.intG_int, DL.intG_bl, DL.intG_str, DL.strG, DL.absG, DL.two, DL.listG2_dK, DL.listG2_lst, DL.listG2_tup, DL.listG2_scr, DL.tupleG_lst, DL.tupleG_tup, DL.allG, DL.dSlice, DL.dNo, DL.dPart, DL.cutD_str, DL.cutD_lst, DL.cutD_tup, DL.dGNil, DL.dGCons, DL.dTupT, DL.dIter, DL.dRange1, DL.dRange2, DL.atI_0, DL.atI_1, DL.atI_2, DL.atI_3, DL.atI_4, DL.hotAt, DL.putAt, DL.SV.put, DL.dAppend, DL.dExtend, DL.sStore, DL.storeD, DL.sFldD, DL.putFD, DL.dFld, DL.splitG, DL.partitionG, DL.startsG, DL.joinG, DL.dClear, List.getElem?_cons_zero, List.getElem?_cons_succ, List.set_cons_zero, List.set_cons_succ, List.length_cons, List.length_nil, List.map_cons, List.map_nil, List.replicate_succ, List.replicate_zero, List.nil_append, List.cons_append, Nat.reduceAdd, Nat.reduceSub, Bool.bne_false, Bool.bne_true, Bool.not_true, Bool.not_false, decide_eq_true_eq, Bool.false_eq_true, reduceIte, and_true, true_and, if_true, if_false, decide_true, decide_false, t_number_of]
  refine ⟨_, ⟨_, _, rfl, rfl⟩, ?_⟩
  rw [decide_eq_true (show ∀ c ∈ tl (numS (n : Int)), c ∈ tl (Str.ofString "0123456789") by
    intro c hc; rw [tl_numS] at hc; exact (fig_mem c).mpr (numL_digits n c hc))]
  have fin : (numS (n : Int)).length ≤ sizeLine := fit (by omega)
  have hA : (1 : Int) ≤ ((numS (n : Int)).length : Int) := by omega
  have hB : ((numS (n : Int)).length : Int) ≤ 60 := by omega
  have hC : (numS (n : Int)).length ≤ 640 := by omega
  cases q : numL n with
  | nil => exact absurd q (numL_ne n)
  | cons c l =>
    have e := head_sign (x := numS (n : Int)) (by rw [tl_numS, q])
    simp only [DL.dVar, DL.dC, DL.dBin, DL.dUn, DL.dTest, DL.dIf, DL.dAnd, DL.dOr, DL.dNot, DL.dAndV, DL.dOrV, DL.dNotV, DL.dChain, DL.dNil, DL.dCons, DL.dTup, DL.dLst, DL.dDK, DL.dFz, DL.dCallL, DL.dCallP, DL.dCallN, DL.dCallT, DL.dCallTN, DL.dMake, DL.dProp, DL.dMeth, DL.dFmt, DL.dJs, DL.look, DL.lookL, DL.frz, DL.frzL, DL.startD, DL.startT, DL.sSeq, DL.sIf, DL.sRet, DL.sRetNew, DL.sRetN, DL.sAsg, DL.sNew, DL.sDrop, DL.sNext, DL.sPar, DL.sFor, DL.dSet, DL.endsP, DL.endsN, DL.endsT, DL.endsTN, DL.SV.toD, DL.Cell.toD, DL.isTy_str, DL.ixD_lst, DL.ixD_tup, DL.ixD_str, DL.ixD_dKs, DL.ixD_dKi, DL.inG_dKs, DL.inG_sign, DL.eqG_int, DL.eqG_str, DL.eqG_bl, DL.addD_int, DL.addD_str, DL.addD_lst, DL.addD_tup, DL.intD_int, DL.cmpD_int, DL.cmpD_str, DL.negD, DL.isNG1, DL.isN, DL.isiG, DL.isD, DL.isAnyG, DL.isAny, DL.isInsG, DL.lenG_str, DL.lenG_lst, DL.lenG_tup, DL.lenG_dK, DL.lenG_scr, DL.intG_int, DL.intG_bl, DL.intG_str, DL.strG, DL.absG, DL.two, DL.listG2_dK, DL.listG2_lst, DL.listG2_tup, DL.listG2_scr, DL.tupleG_lst, DL.tupleG_tup, DL.allG, DL.dSlice, DL.dNo, DL.dPart, DL.cutD_str, DL.cutD_lst, DL.cutD_tup, DL.dGNil, DL.dGCons, DL.dTupT, DL.dIter, DL.dRange1, DL.dRange2, DL.atI_0, DL.atI_1, DL.atI_2, DL.atI_3, DL.atI_4, DL.hotAt, DL.putAt, DL.SV.put, DL.dAppend, DL.dExtend, DL.sStore, DL.storeD, DL.sFldD, DL.putFD, DL.dFld, DL.splitG, DL.partitionG, DL.startsG, DL.joinG, DL.dClear, List.getElem?_cons_zero, List.getElem?_cons_succ, List.set_cons_zero, List.set_cons_succ, List.length_cons, List.length_nil, List.map_cons, List.map_nil, List.replicate_succ, List.replicate_zero, List.nil_append, List.cons_append, Nat.reduceAdd, Nat.reduceSub, Bool.bne_false, Bool.bne_true, Bool.not_true, Bool.not_false, decide_eq_true_eq, Bool.false_eq_true, reduceIte, and_true, true_and, if_true, if_false, decide_true, decide_false, hA, hB, hC, fin, e, zero_str, sign_eq, hi]
    split
    · rename_i hgt
      have hc : ¬ c = 48 := by
        by_cases z : n = 0
        · subst z
          rw [h1, show numL 0 = [48] from rfl] at hgt
          simp at hgt
        · have := numL_head n (by omega)
          rw [q] at this
          simpa using this
      rw [if_neg hc]; trivial
    · trivial
theorem head_eq (r : Str) (w : Nat) : headS r w = Txt.join (Str.ofString " ") [Str.ofString "prices", r, numS (w : Int)] := by
  refine ext_tl ?_
  rw [join_eq, tl_join]
  unfold headS
  rw [tl_append, tl_append, tl_append]
  show tl (Str.ofString "prices ") ++ tl r ++ tl (Str.ofString " ") ++ tl (numS (w : Int)) = joinL (tl (Str.ofString " ")) [tl (Str.ofString "prices"), tl r, tl (numS (w : Int))]
  rw [tl_ps, tl_sp, tl_pr]
  simp [joinL]
theorem head_split (s : Sz r w) : Txt.split (headS r w) (Str.ofString " ") = [Str.ofString "prices", r, numS (w : Int)] := by
  rw [head_eq]
  refine split_join tl_sp (by decide +kernel) (by simp) fun p hp => ?_
  simp only [List.mem_cons, List.not_mem_nil, or_false] at hp
  rcases hp with e | e | e
  · rw [e, tl_pr]; decide
  · intro z; rw [e] at z; have := s.low _ z; omega
  · intro z; rw [e] at z; have := numS_signs z; omega
theorem num_w {w : Nat} (h : w < 10) : numS (w : Int) = ⟨#[48 + w]⟩ := ext_tl (by rw [tl_numS, numL_lt h])
theorem h_head_of : ∀ ds r, M_head_of ds r → t_head_of (endsP r) (startD N_head_of.length ds) := by
  rintro _ _ ⟨r, w, s, rfl, rfl⟩
  have hl := head_len s
  have h3 := s.w3
  have hr4 := s.four
  have hr1 := s.one
  rw [← len_tl] at hr4
  have hi : PySem.intText? (numS (w : Int)) = some (w : Int) := int_num (by rw [numL_lt (by omega)]; simp)
  have hnl : (numS (w : Int)).length = 1 := by rw [len_tl, tl_numS, numL_lt (by omega)]; rfl
  have hw : Str.ofString "prices" = Str.ofString "prices" := rfl
  simp only [DL.dVar, DL.dC, DL.dBin, DL.dUn, DL.dTest, DL.dIf, DL.dAnd, DL.dOr, DL.dNot, DL.dAndV, DL.dOrV, DL.dNotV, DL.dChain, DL.dNil, DL.dCons, DL.dTup, DL.dLst, DL.dDK, DL.dFz, DL.dCallL, DL.dCallP, DL.dCallN, DL.dCallT, DL.dCallTN, DL.dMake, DL.dProp, DL.dMeth, DL.dFmt, DL.dJs, DL.look, DL.lookL, DL.frz, DL.frzL, DL.startD, DL.startT, DL.sSeq, DL.sIf, DL.sRet, DL.sRetNew, DL.sRetN, DL.sAsg, DL.sNew, DL.sDrop, DL.sNext, DL.sPar, DL.sFor, DL.dSet, DL.endsP, DL.endsN, DL.endsT, DL.endsTN, DL.SV.toD, DL.Cell.toD, DL.isTy_str, DL.ixD_lst, DL.ixD_tup, DL.ixD_str, DL.ixD_dKs, DL.ixD_dKi, DL.inG_dKs, DL.inG_sign, DL.eqG_int, DL.eqG_str, DL.eqG_bl, DL.addD_int, DL.addD_str, DL.addD_lst, DL.addD_tup, DL.intD_int, DL.cmpD_int, DL.cmpD_str, DL.negD, DL.isNG1, DL.isN, DL.isiG, DL.isD, DL.isAnyG, DL.isAny, DL.isInsG, DL.lenG_str, DL.lenG_lst, DL.lenG_tup, DL.lenG_dK, DL.lenG_scr, DL.intG_int, DL.intG_bl, DL.intG_str, DL.strG, DL.absG, DL.two, DL.listG2_dK, DL.listG2_lst, DL.listG2_tup, DL.listG2_scr, DL.tupleG_lst, DL.tupleG_tup, DL.allG, DL.dSlice, DL.dNo, DL.dPart, DL.cutD_str, DL.cutD_lst, DL.cutD_tup, DL.dGNil, DL.dGCons, DL.dTupT, DL.dIter, DL.dRange1, DL.dRange2, DL.atI_0, DL.atI_1, DL.atI_2, DL.atI_3, DL.atI_4, DL.hotAt, DL.putAt, DL.SV.put, DL.dAppend, DL.dExtend, DL.sStore, DL.storeD, DL.sFldD, DL.putFD, DL.dFld, DL.splitG, DL.partitionG, DL.startsG, DL.joinG, DL.dClear, List.getElem?_cons_zero, List.getElem?_cons_succ, List.set_cons_zero, List.set_cons_succ, List.length_cons, List.length_nil, List.map_cons, List.map_nil, List.replicate_succ, List.replicate_zero, List.nil_append, List.cons_append, Nat.reduceAdd, Nat.reduceSub, Bool.bne_false, Bool.bne_true, Bool.not_true, Bool.not_false, decide_eq_true_eq, Bool.false_eq_true, reduceIte, and_true, true_and, if_true, if_false, decide_true, decide_false, t_head_of, head_split s, len_1 tl_sp]
  refine ⟨rfl, fit (by omega), ?_⟩
  simp only [DL.dVar, DL.dC, DL.dBin, DL.dUn, DL.dTest, DL.dIf, DL.dAnd, DL.dOr, DL.dNot, DL.dAndV, DL.dOrV, DL.dNotV, DL.dChain, DL.dNil, DL.dCons, DL.dTup, DL.dLst, DL.dDK, DL.dFz, DL.dCallL, DL.dCallP, DL.dCallN, DL.dCallT, DL.dCallTN, DL.dMake, DL.dProp, DL.dMeth, DL.dFmt, DL.dJs, DL.look, DL.lookL, DL.frz, DL.frzL, DL.startD, DL.startT, DL.sSeq, DL.sIf, DL.sRet, DL.sRetNew, DL.sRetN, DL.sAsg, DL.sNew, DL.sDrop, DL.sNext, DL.sPar, DL.sFor, DL.dSet, DL.endsP, DL.endsN, DL.endsT, DL.endsTN, DL.SV.toD, DL.Cell.toD, DL.isTy_str, DL.ixD_lst, DL.ixD_tup, DL.ixD_str, DL.ixD_dKs, DL.ixD_dKi, DL.inG_dKs, DL.inG_sign, DL.eqG_int, DL.eqG_str, DL.eqG_bl, DL.addD_int, DL.addD_str, DL.addD_lst, DL.addD_tup, DL.intD_int, DL.cmpD_int, DL.cmpD_str, DL.negD, DL.isNG1, DL.isN, DL.isiG, DL.isD, DL.isAnyG, DL.isAny, DL.isInsG, DL.lenG_str, DL.lenG_lst, DL.lenG_tup, DL.lenG_dK, DL.lenG_scr, DL.intG_int, DL.intG_bl, DL.intG_str, DL.strG, DL.absG, DL.two, DL.listG2_dK, DL.listG2_lst, DL.listG2_tup, DL.listG2_scr, DL.tupleG_lst, DL.tupleG_tup, DL.allG, DL.dSlice, DL.dNo, DL.dPart, DL.cutD_str, DL.cutD_lst, DL.cutD_tup, DL.dGNil, DL.dGCons, DL.dTupT, DL.dIter, DL.dRange1, DL.dRange2, DL.atI_0, DL.atI_1, DL.atI_2, DL.atI_3, DL.atI_4, DL.hotAt, DL.putAt, DL.SV.put, DL.dAppend, DL.dExtend, DL.sStore, DL.storeD, DL.sFldD, DL.putFD, DL.dFld, DL.splitG, DL.partitionG, DL.startsG, DL.joinG, DL.dClear, List.getElem?_cons_zero, List.getElem?_cons_succ, List.set_cons_zero, List.set_cons_succ, List.length_cons, List.length_nil, List.map_cons, List.map_nil, List.replicate_succ, List.replicate_zero, List.nil_append, List.cons_append, Nat.reduceAdd, Nat.reduceSub, Bool.bne_false, Bool.bne_true, Bool.not_true, Bool.not_false, decide_eq_true_eq, Bool.false_eq_true, reduceIte, and_true, true_and, if_true, if_false, decide_true, decide_false, hnl, hi]
  rw [if_neg (by decide)]
  refine ⟨_, ⟨r, by omega, rfl, rfl⟩, ?_⟩
  rw [decide_eq_true ⟨s.low, fun z => by rw [z] at hr1; simp at hr1⟩]
  simp only [DL.dVar, DL.dC, DL.dBin, DL.dUn, DL.dTest, DL.dIf, DL.dAnd, DL.dOr, DL.dNot, DL.dAndV, DL.dOrV, DL.dNotV, DL.dChain, DL.dNil, DL.dCons, DL.dTup, DL.dLst, DL.dDK, DL.dFz, DL.dCallL, DL.dCallP, DL.dCallN, DL.dCallT, DL.dCallTN, DL.dMake, DL.dProp, DL.dMeth, DL.dFmt, DL.dJs, DL.look, DL.lookL, DL.frz, DL.frzL, DL.startD, DL.startT, DL.sSeq, DL.sIf, DL.sRet, DL.sRetNew, DL.sRetN, DL.sAsg, DL.sNew, DL.sDrop, DL.sNext, DL.sPar, DL.sFor, DL.dSet, DL.endsP, DL.endsN, DL.endsT, DL.endsTN, DL.SV.toD, DL.Cell.toD, DL.isTy_str, DL.ixD_lst, DL.ixD_tup, DL.ixD_str, DL.ixD_dKs, DL.ixD_dKi, DL.inG_dKs, DL.inG_sign, DL.eqG_int, DL.eqG_str, DL.eqG_bl, DL.addD_int, DL.addD_str, DL.addD_lst, DL.addD_tup, DL.intD_int, DL.cmpD_int, DL.cmpD_str, DL.negD, DL.isNG1, DL.isN, DL.isiG, DL.isD, DL.isAnyG, DL.isAny, DL.isInsG, DL.lenG_str, DL.lenG_lst, DL.lenG_tup, DL.lenG_dK, DL.lenG_scr, DL.intG_int, DL.intG_bl, DL.intG_str, DL.strG, DL.absG, DL.two, DL.listG2_dK, DL.listG2_lst, DL.listG2_tup, DL.listG2_scr, DL.tupleG_lst, DL.tupleG_tup, DL.allG, DL.dSlice, DL.dNo, DL.dPart, DL.cutD_str, DL.cutD_lst, DL.cutD_tup, DL.dGNil, DL.dGCons, DL.dTupT, DL.dIter, DL.dRange1, DL.dRange2, DL.atI_0, DL.atI_1, DL.atI_2, DL.atI_3, DL.atI_4, DL.hotAt, DL.putAt, DL.SV.put, DL.dAppend, DL.dExtend, DL.sStore, DL.storeD, DL.sFldD, DL.putFD, DL.dFld, DL.splitG, DL.partitionG, DL.startsG, DL.joinG, DL.dClear, List.getElem?_cons_zero, List.getElem?_cons_succ, List.set_cons_zero, List.set_cons_succ, List.length_cons, List.length_nil, List.map_cons, List.map_nil, List.replicate_succ, List.replicate_zero, List.nil_append, List.cons_append, Nat.reduceAdd, Nat.reduceSub, Bool.bne_false, Bool.bne_true, Bool.not_true, Bool.not_false, decide_eq_true_eq, Bool.false_eq_true, reduceIte, and_true, true_and, if_true, if_false, decide_true, decide_false]
  refine ⟨by decide, ?_⟩
  have hm : 48 + w ∈ (Str.ofString "0123456789").cps.toList := (fig_mem _).mpr (by omega)
  rw [if_neg (by decide), num_w (by omega)]
  simp only [DL.dVar, DL.dC, DL.dBin, DL.dUn, DL.dTest, DL.dIf, DL.dAnd, DL.dOr, DL.dNot, DL.dAndV, DL.dOrV, DL.dNotV, DL.dChain, DL.dNil, DL.dCons, DL.dTup, DL.dLst, DL.dDK, DL.dFz, DL.dCallL, DL.dCallP, DL.dCallN, DL.dCallT, DL.dCallTN, DL.dMake, DL.dProp, DL.dMeth, DL.dFmt, DL.dJs, DL.look, DL.lookL, DL.frz, DL.frzL, DL.startD, DL.startT, DL.sSeq, DL.sIf, DL.sRet, DL.sRetNew, DL.sRetN, DL.sAsg, DL.sNew, DL.sDrop, DL.sNext, DL.sPar, DL.sFor, DL.dSet, DL.endsP, DL.endsN, DL.endsT, DL.endsTN, DL.SV.toD, DL.Cell.toD, DL.isTy_str, DL.ixD_lst, DL.ixD_tup, DL.ixD_str, DL.ixD_dKs, DL.ixD_dKi, DL.inG_dKs, DL.inG_sign, DL.eqG_int, DL.eqG_str, DL.eqG_bl, DL.addD_int, DL.addD_str, DL.addD_lst, DL.addD_tup, DL.intD_int, DL.cmpD_int, DL.cmpD_str, DL.negD, DL.isNG1, DL.isN, DL.isiG, DL.isD, DL.isAnyG, DL.isAny, DL.isInsG, DL.lenG_str, DL.lenG_lst, DL.lenG_tup, DL.lenG_dK, DL.lenG_scr, DL.intG_int, DL.intG_bl, DL.intG_str, DL.strG, DL.absG, DL.two, DL.listG2_dK, DL.listG2_lst, DL.listG2_tup, DL.listG2_scr, DL.tupleG_lst, DL.tupleG_tup, DL.allG, DL.dSlice, DL.dNo, DL.dPart, DL.cutD_str, DL.cutD_lst, DL.cutD_tup, DL.dGNil, DL.dGCons, DL.dTupT, DL.dIter, DL.dRange1, DL.dRange2, DL.atI_0, DL.atI_1, DL.atI_2, DL.atI_3, DL.atI_4, DL.hotAt, DL.putAt, DL.SV.put, DL.dAppend, DL.dExtend, DL.sStore, DL.storeD, DL.sFldD, DL.putFD, DL.dFld, DL.splitG, DL.partitionG, DL.startsG, DL.joinG, DL.dClear, List.getElem?_cons_zero, List.getElem?_cons_succ, List.set_cons_zero, List.set_cons_succ, List.length_cons, List.length_nil, List.map_cons, List.map_nil, List.replicate_succ, List.replicate_zero, List.nil_append, List.cons_append, Nat.reduceAdd, Nat.reduceSub, Bool.bne_false, Bool.bne_true, Bool.not_true, Bool.not_false, decide_eq_true_eq, Bool.false_eq_true, reduceIte, and_true, true_and, if_true, if_false, decide_true, decide_false, hm]
  exact ⟨by decide, by decide⟩
end K86

set_option Elab.async false
set_option linter.all false
set_option maxRecDepth 100000
set_option maxHeartbeats 2000000
namespace K86
open PySem L2 DL TL
variable {r : Str} {w : Nat} {t : Tab}
theorem lcGo_lines (h : TabOk r w t) {ρ : DL.Env} {vs : List Nat} {g : WPG} {tt : WPT} {te : WPE} {Q : List D → DL.Env → Prop} (hc : coolB ρ vs = true)
    (hs : ∀ p ∈ t, ∀ (Q2 : D → DL.Env → Prop) (Q3 : DL.Env → Prop), Q2 (.str (lineS p)) ρ → g (.imm (.str p.1)) (wipeE ρ vs) fun ρ1 => tt ρ1 fun b ρ2 => if b = true then te ρ2 fun x ρ3 => frz x ρ3 fun e ρ4 => Q2 e (back ρ ρ4 vs) else Q3 (back ρ ρ2 vs))
    (q : Q (t.map fun p => .str (lineS p)) ρ) : lcGo vs g tt te ((names r w).map D.str) [] ρ Q := by
  have key : ∀ p ∈ t, (t.find? fun q => decide (q.1 = p.1)) = some p := by
    have hn := names_nodup h.toSz
    rw [← h.keys] at hn
    clear hs q hc h
    induction t with
    | nil => intro p hp; cases hp
    | cons a t ih =>
      intro p hp
      rw [List.map_cons, List.nodup_cons] at hn
      rw [List.find?_cons]
      rcases List.mem_cons.mp hp with e | e
      · subst e; simp
      · have : ¬ a.1 = p.1 := fun z => hn.1 (by rw [z]; exact List.mem_map.mpr ⟨p, e, rfl⟩)
        simp only [this, decide_false]
        exact ih hn.2 p e
  refine lcGo_map (f := fun d => match d with | .str x => (match t.find? fun q => decide (q.1 = x) with | some p => .str (lineS p) | none => .non) | _ => .non) hc _ _ (fun d hd Q2 Q3 h3 => ?_) ?_ ?_
  · obtain ⟨x, hx, e⟩ := List.mem_map.mp hd
    obtain ⟨p, hp, e2⟩ := name_in h hx
    subst e2
    subst e
    simp only [key p hp] at h3
    exact hs p hp Q2 Q3 h3
  · rw [List.length_map, List.length_nil]
    have := names_len h.toSz
    exact fit (by omega)
  · rw [List.nil_append, ← h.keys, List.map_map, List.map_map]
    have e : (t.map ((fun (d : D) => match d with | .str x => (match t.find? fun (q : Str × Int × Int) => decide (q.1 = x) with | some p => D.str (lineS p) | none => .non) | _ => .non) ∘ D.str ∘ fun (p : Str × Int × Int) => p.1)) = t.map fun p => .str (lineS p) := by
      refine List.map_congr_left fun p hp => ?_
      simp only [Function.comp, key p hp]
    exact (congrArg (fun l => Q l ρ) e).mpr q
theorem rt_tab (t : Tab) : rtexts (tabD t) = some (t.map (·.1)) := rtexts_map (fun p : Str × Int × Int => p.1) (fun p => frD p.2) t
theorem log_w (s : Sz r w) : (w : Int).natAbs.log2 < 1920 := log_sm (w_sm s)
theorem text_eq (r : Str) (w : Int) (t : Tab) : Txt.join (Str.ofString "\n") (headS r w :: t.map lineS) ++ Str.ofString "\n" = textS r w t := rfl
theorem strsD_lines (x : Str) (t : Tab) : strsD (.str x :: t.map fun p => .str (lineS p)) = some (x :: t.map lineS) := by
  have := strsD_map (x :: t.map lineS)
  rw [List.map_cons, List.map_map] at this
  exact this
theorem h_prices_text : ∀ ds r, M_prices_text ds r → t_prices_text (endsP r) (startD N_prices_text.length ds) := by
  rintro _ _ ⟨r, w, t, h, rfl, rfl⟩
  have hf : (priceF r w t).lookup (Str.ofString "rows") = some (.str r) := look_rows r w t
  have hr4 := h.four
  rw [← len_tl] at hr4
  have hn := numS_len (w_sm h.toSz)
  have hp : (Str.ofString "prices ").length = 7 := by rw [len_tl, tl_ps]; rfl
  have hs := len_1 tl_sp
  have hnl := len_1 tl_nl
  unfold numS at hn
  simp only [DL.dVar, DL.dC, DL.dBin, DL.dUn, DL.dTest, DL.dIf, DL.dAnd, DL.dOr, DL.dNot, DL.dAndV, DL.dOrV, DL.dNotV, DL.dChain, DL.dNil, DL.dCons, DL.dTup, DL.dLst, DL.dDK, DL.dFz, DL.dCallL, DL.dCallP, DL.dCallN, DL.dCallT, DL.dCallTN, DL.dMake, DL.dProp, DL.dMeth, DL.dFmt, DL.dJs, DL.look, DL.lookL, DL.frz, DL.frzL, DL.startD, DL.startT, DL.sSeq, DL.sIf, DL.sRet, DL.sRetNew, DL.sRetN, DL.sAsg, DL.sNew, DL.sDrop, DL.sNext, DL.sPar, DL.sFor, DL.dSet, DL.endsP, DL.endsN, DL.endsT, DL.endsTN, DL.SV.toD, DL.Cell.toD, DL.isTy_str, DL.ixD_lst, DL.ixD_tup, DL.ixD_str, DL.ixD_dKs, DL.ixD_dKi, DL.inG_dKs, DL.inG_sign, DL.eqG_int, DL.eqG_str, DL.eqG_bl, DL.addD_int, DL.addD_str, DL.addD_lst, DL.addD_tup, DL.intD_int, DL.cmpD_int, DL.cmpD_str, DL.negD, DL.isNG1, DL.isN, DL.isiG, DL.isD, DL.isAnyG, DL.isAny, DL.isInsG, DL.lenG_str, DL.lenG_lst, DL.lenG_tup, DL.lenG_dK, DL.lenG_scr, DL.intG_int, DL.intG_bl, DL.intG_str, DL.strG, DL.absG, DL.two, DL.listG2_dK, DL.listG2_lst, DL.listG2_tup, DL.listG2_scr, DL.tupleG_lst, DL.tupleG_tup, DL.allG, DL.dSlice, DL.dNo, DL.dPart, DL.cutD_str, DL.cutD_lst, DL.cutD_tup, DL.dGNil, DL.dGCons, DL.dTupT, DL.dIter, DL.dRange1, DL.dRange2, DL.atI_0, DL.atI_1, DL.atI_2, DL.atI_3, DL.atI_4, DL.hotAt, DL.putAt, DL.SV.put, DL.dAppend, DL.dExtend, DL.sStore, DL.storeD, DL.sFldD, DL.putFD, DL.dFld, DL.splitG, DL.partitionG, DL.startsG, DL.joinG, DL.dClear, List.getElem?_cons_zero, List.getElem?_cons_succ, List.set_cons_zero, List.set_cons_succ, List.length_cons, List.length_nil, List.map_cons, List.map_nil, List.replicate_succ, List.replicate_zero, List.nil_append, List.cons_append, Nat.reduceAdd, Nat.reduceSub, Bool.bne_false, Bool.bne_true, Bool.not_true, Bool.not_false, decide_eq_true_eq, Bool.false_eq_true, reduceIte, and_true, true_and, if_true, if_false, decide_true, decide_false, t_prices_text, priceD]
  refine ⟨_, ⟨r, w, t, h, rfl, rfl⟩, ?_⟩
  simp only [DL.dVar, DL.dC, DL.dBin, DL.dUn, DL.dTest, DL.dIf, DL.dAnd, DL.dOr, DL.dNot, DL.dAndV, DL.dOrV, DL.dNotV, DL.dChain, DL.dNil, DL.dCons, DL.dTup, DL.dLst, DL.dDK, DL.dFz, DL.dCallL, DL.dCallP, DL.dCallN, DL.dCallT, DL.dCallTN, DL.dMake, DL.dProp, DL.dMeth, DL.dFmt, DL.dJs, DL.look, DL.lookL, DL.frz, DL.frzL, DL.startD, DL.startT, DL.sSeq, DL.sIf, DL.sRet, DL.sRetNew, DL.sRetN, DL.sAsg, DL.sNew, DL.sDrop, DL.sNext, DL.sPar, DL.sFor, DL.dSet, DL.endsP, DL.endsN, DL.endsT, DL.endsTN, DL.SV.toD, DL.Cell.toD, DL.isTy_str, DL.ixD_lst, DL.ixD_tup, DL.ixD_str, DL.ixD_dKs, DL.ixD_dKi, DL.inG_dKs, DL.inG_sign, DL.eqG_int, DL.eqG_str, DL.eqG_bl, DL.addD_int, DL.addD_str, DL.addD_lst, DL.addD_tup, DL.intD_int, DL.cmpD_int, DL.cmpD_str, DL.negD, DL.isNG1, DL.isN, DL.isiG, DL.isD, DL.isAnyG, DL.isAny, DL.isInsG, DL.lenG_str, DL.lenG_lst, DL.lenG_tup, DL.lenG_dK, DL.lenG_scr, DL.intG_int, DL.intG_bl, DL.intG_str, DL.strG, DL.absG, DL.two, DL.listG2_dK, DL.listG2_lst, DL.listG2_tup, DL.listG2_scr, DL.tupleG_lst, DL.tupleG_tup, DL.allG, DL.dSlice, DL.dNo, DL.dPart, DL.cutD_str, DL.cutD_lst, DL.cutD_tup, DL.dGNil, DL.dGCons, DL.dTupT, DL.dIter, DL.dRange1, DL.dRange2, DL.atI_0, DL.atI_1, DL.atI_2, DL.atI_3, DL.atI_4, DL.hotAt, DL.putAt, DL.SV.put, DL.dAppend, DL.dExtend, DL.sStore, DL.storeD, DL.sFldD, DL.putFD, DL.dFld, DL.splitG, DL.partitionG, DL.startsG, DL.joinG, DL.dClear, List.getElem?_cons_zero, List.getElem?_cons_succ, List.set_cons_zero, List.set_cons_succ, List.length_cons, List.length_nil, List.map_cons, List.map_nil, List.replicate_succ, List.replicate_zero, List.nil_append, List.cons_append, Nat.reduceAdd, Nat.reduceSub, Bool.bne_false, Bool.bne_true, Bool.not_true, Bool.not_false, decide_eq_true_eq, Bool.false_eq_true, reduceIte, and_true, true_and, if_true, if_false, decide_true, decide_false, look_rows, look_width, emp_app, app_len]
  refine ⟨fit (by omega), fit (by omega), fit (by omega), fit (by omega), log_w h.toSz, fit (by omega), by decide, ?_⟩
  simp only [DL.dVar, DL.dC, DL.dBin, DL.dUn, DL.dTest, DL.dIf, DL.dAnd, DL.dOr, DL.dNot, DL.dAndV, DL.dOrV, DL.dNotV, DL.dChain, DL.dNil, DL.dCons, DL.dTup, DL.dLst, DL.dDK, DL.dFz, DL.dCallL, DL.dCallP, DL.dCallN, DL.dCallT, DL.dCallTN, DL.dMake, DL.dProp, DL.dMeth, DL.dFmt, DL.dJs, DL.look, DL.lookL, DL.frz, DL.frzL, DL.startD, DL.startT, DL.sSeq, DL.sIf, DL.sRet, DL.sRetNew, DL.sRetN, DL.sAsg, DL.sNew, DL.sDrop, DL.sNext, DL.sPar, DL.sFor, DL.dSet, DL.endsP, DL.endsN, DL.endsT, DL.endsTN, DL.SV.toD, DL.Cell.toD, DL.isTy_str, DL.ixD_lst, DL.ixD_tup, DL.ixD_str, DL.ixD_dKs, DL.ixD_dKi, DL.inG_dKs, DL.inG_sign, DL.eqG_int, DL.eqG_str, DL.eqG_bl, DL.addD_int, DL.addD_str, DL.addD_lst, DL.addD_tup, DL.intD_int, DL.cmpD_int, DL.cmpD_str, DL.negD, DL.isNG1, DL.isN, DL.isiG, DL.isD, DL.isAnyG, DL.isAny, DL.isInsG, DL.lenG_str, DL.lenG_lst, DL.lenG_tup, DL.lenG_dK, DL.lenG_scr, DL.intG_int, DL.intG_bl, DL.intG_str, DL.strG, DL.absG, DL.two, DL.listG2_dK, DL.listG2_lst, DL.listG2_tup, DL.listG2_scr, DL.tupleG_lst, DL.tupleG_tup, DL.allG, DL.dSlice, DL.dNo, DL.dPart, DL.cutD_str, DL.cutD_lst, DL.cutD_tup, DL.dGNil, DL.dGCons, DL.dTupT, DL.dIter, DL.dRange1, DL.dRange2, DL.atI_0, DL.atI_1, DL.atI_2, DL.atI_3, DL.atI_4, DL.hotAt, DL.putAt, DL.SV.put, DL.dAppend, DL.dExtend, DL.sStore, DL.storeD, DL.sFldD, DL.putFD, DL.dFld, DL.splitG, DL.partitionG, DL.startsG, DL.joinG, DL.dClear, List.getElem?_cons_zero, List.getElem?_cons_succ, List.set_cons_zero, List.set_cons_succ, List.length_cons, List.length_nil, List.map_cons, List.map_nil, List.replicate_succ, List.replicate_zero, List.nil_append, List.cons_append, Nat.reduceAdd, Nat.reduceSub, Bool.bne_false, Bool.bne_true, Bool.not_true, Bool.not_false, decide_eq_true_eq, Bool.false_eq_true, reduceIte, and_true, true_and, if_true, if_false, decide_true, decide_false, dLc, sortedG2, rt_tab, h.keys, sort_names]
  refine ⟨names_len h.toSz, ?_⟩
  refine lcGo_lines h rfl (fun p hp Q2 Q3 h3 => ?_) ?_
  · have hg := tab_get h hp
    have hl := (st_len (tab_st h hp)).1
    have hfl := frS_len (h.good p hp)
    simp only [DL.dVar, DL.dC, DL.dBin, DL.dUn, DL.dTest, DL.dIf, DL.dAnd, DL.dOr, DL.dNot, DL.dAndV, DL.dOrV, DL.dNotV, DL.dChain, DL.dNil, DL.dCons, DL.dTup, DL.dLst, DL.dDK, DL.dFz, DL.dCallL, DL.dCallP, DL.dCallN, DL.dCallT, DL.dCallTN, DL.dMake, DL.dProp, DL.dMeth, DL.dFmt, DL.dJs, DL.look, DL.lookL, DL.frz, DL.frzL, DL.startD, DL.startT, DL.sSeq, DL.sIf, DL.sRet, DL.sRetNew, DL.sRetN, DL.sAsg, DL.sNew, DL.sDrop, DL.sNext, DL.sPar, DL.sFor, DL.dSet, DL.endsP, DL.endsN, DL.endsT, DL.endsTN, DL.SV.toD, DL.Cell.toD, DL.isTy_str, DL.ixD_lst, DL.ixD_tup, DL.ixD_str, DL.ixD_dKs, DL.ixD_dKi, DL.inG_dKs, DL.inG_sign, DL.eqG_int, DL.eqG_str, DL.eqG_bl, DL.addD_int, DL.addD_str, DL.addD_lst, DL.addD_tup, DL.intD_int, DL.cmpD_int, DL.cmpD_str, DL.negD, DL.isNG1, DL.isN, DL.isiG, DL.isD, DL.isAnyG, DL.isAny, DL.isInsG, DL.lenG_str, DL.lenG_lst, DL.lenG_tup, DL.lenG_dK, DL.lenG_scr, DL.intG_int, DL.intG_bl, DL.intG_str, DL.strG, DL.absG, DL.two, DL.listG2_dK, DL.listG2_lst, DL.listG2_tup, DL.listG2_scr, DL.tupleG_lst, DL.tupleG_tup, DL.allG, DL.dSlice, DL.dNo, DL.dPart, DL.cutD_str, DL.cutD_lst, DL.cutD_tup, DL.dGNil, DL.dGCons, DL.dTupT, DL.dIter, DL.dRange1, DL.dRange2, DL.atI_0, DL.atI_1, DL.atI_2, DL.atI_3, DL.atI_4, DL.hotAt, DL.putAt, DL.SV.put, DL.dAppend, DL.dExtend, DL.sStore, DL.storeD, DL.sFldD, DL.putFD, DL.dFld, DL.splitG, DL.partitionG, DL.startsG, DL.joinG, DL.dClear, List.getElem?_cons_zero, List.getElem?_cons_succ, List.set_cons_zero, List.set_cons_succ, List.length_cons, List.length_nil, List.map_cons, List.map_nil, List.replicate_succ, List.replicate_zero, List.nil_append, List.cons_append, Nat.reduceAdd, Nat.reduceSub, Bool.bne_false, Bool.bne_true, Bool.not_true, Bool.not_false, decide_eq_true_eq, Bool.false_eq_true, reduceIte, and_true, true_and, if_true, if_false, decide_true, decide_false, dYes, wipeE, back, hg, emp_app, app_len]
    refine ⟨fit (by omega), fit (by omega), fit (by omega), _, ⟨p.2, h.good p hp, rfl, rfl⟩, ?_⟩
    simp only [DL.dVar, DL.dC, DL.dBin, DL.dUn, DL.dTest, DL.dIf, DL.dAnd, DL.dOr, DL.dNot, DL.dAndV, DL.dOrV, DL.dNotV, DL.dChain, DL.dNil, DL.dCons, DL.dTup, DL.dLst, DL.dDK, DL.dFz, DL.dCallL, DL.dCallP, DL.dCallN, DL.dCallT, DL.dCallTN, DL.dMake, DL.dProp, DL.dMeth, DL.dFmt, DL.dJs, DL.look, DL.lookL, DL.frz, DL.frzL, DL.startD, DL.startT, DL.sSeq, DL.sIf, DL.sRet, DL.sRetNew, DL.sRetN, DL.sAsg, DL.sNew, DL.sDrop, DL.sNext, DL.sPar, DL.sFor, DL.dSet, DL.endsP, DL.endsN, DL.endsT, DL.endsTN, DL.SV.toD, DL.Cell.toD, DL.isTy_str, DL.ixD_lst, DL.ixD_tup, DL.ixD_str, DL.ixD_dKs, DL.ixD_dKi, DL.inG_dKs, DL.inG_sign, DL.eqG_int, DL.eqG_str, DL.eqG_bl, DL.addD_int, DL.addD_str, DL.addD_lst, DL.addD_tup, DL.intD_int, DL.cmpD_int, DL.cmpD_str, DL.negD, DL.isNG1, DL.isN, DL.isiG, DL.isD, DL.isAnyG, DL.isAny, DL.isInsG, DL.lenG_str, DL.lenG_lst, DL.lenG_tup, DL.lenG_dK, DL.lenG_scr, DL.intG_int, DL.intG_bl, DL.intG_str, DL.strG, DL.absG, DL.two, DL.listG2_dK, DL.listG2_lst, DL.listG2_tup, DL.listG2_scr, DL.tupleG_lst, DL.tupleG_tup, DL.allG, DL.dSlice, DL.dNo, DL.dPart, DL.cutD_str, DL.cutD_lst, DL.cutD_tup, DL.dGNil, DL.dGCons, DL.dTupT, DL.dIter, DL.dRange1, DL.dRange2, DL.atI_0, DL.atI_1, DL.atI_2, DL.atI_3, DL.atI_4, DL.hotAt, DL.putAt, DL.SV.put, DL.dAppend, DL.dExtend, DL.sStore, DL.storeD, DL.sFldD, DL.putFD, DL.dFld, DL.splitG, DL.partitionG, DL.startsG, DL.joinG, DL.dClear, List.getElem?_cons_zero, List.getElem?_cons_succ, List.set_cons_zero, List.set_cons_succ, List.length_cons, List.length_nil, List.map_cons, List.map_nil, List.replicate_succ, List.replicate_zero, List.nil_append, List.cons_append, Nat.reduceAdd, Nat.reduceSub, Bool.bne_false, Bool.bne_true, Bool.not_true, Bool.not_false, decide_eq_true_eq, Bool.false_eq_true, reduceIte, and_true, true_and, if_true, if_false, decide_true, decide_false, emp_app, app_len]
    exact ⟨fit (by omega), fit (by omega), h3⟩
  · simp only [DL.dVar, DL.dC, DL.dBin, DL.dUn, DL.dTest, DL.dIf, DL.dAnd, DL.dOr, DL.dNot, DL.dAndV, DL.dOrV, DL.dNotV, DL.dChain, DL.dNil, DL.dCons, DL.dTup, DL.dLst, DL.dDK, DL.dFz, DL.dCallL, DL.dCallP, DL.dCallN, DL.dCallT, DL.dCallTN, DL.dMake, DL.dProp, DL.dMeth, DL.dFmt, DL.dJs, DL.look, DL.lookL, DL.frz, DL.frzL, DL.startD, DL.startT, DL.sSeq, DL.sIf, DL.sRet, DL.sRetNew, DL.sRetN, DL.sAsg, DL.sNew, DL.sDrop, DL.sNext, DL.sPar, DL.sFor, DL.dSet, DL.endsP, DL.endsN, DL.endsT, DL.endsTN, DL.SV.toD, DL.Cell.toD, DL.isTy_str, DL.ixD_lst, DL.ixD_tup, DL.ixD_str, DL.ixD_dKs, DL.ixD_dKi, DL.inG_dKs, DL.inG_sign, DL.eqG_int, DL.eqG_str, DL.eqG_bl, DL.addD_int, DL.addD_str, DL.addD_lst, DL.addD_tup, DL.intD_int, DL.cmpD_int, DL.cmpD_str, DL.negD, DL.isNG1, DL.isN, DL.isiG, DL.isD, DL.isAnyG, DL.isAny, DL.isInsG, DL.lenG_str, DL.lenG_lst, DL.lenG_tup, DL.lenG_dK, DL.lenG_scr, DL.intG_int, DL.intG_bl, DL.intG_str, DL.strG, DL.absG, DL.two, DL.listG2_dK, DL.listG2_lst, DL.listG2_tup, DL.listG2_scr, DL.tupleG_lst, DL.tupleG_tup, DL.allG, DL.dSlice, DL.dNo, DL.dPart, DL.cutD_str, DL.cutD_lst, DL.cutD_tup, DL.dGNil, DL.dGCons, DL.dTupT, DL.dIter, DL.dRange1, DL.dRange2, DL.atI_0, DL.atI_1, DL.atI_2, DL.atI_3, DL.atI_4, DL.hotAt, DL.putAt, DL.SV.put, DL.dAppend, DL.dExtend, DL.sStore, DL.storeD, DL.sFldD, DL.putFD, DL.dFld, DL.splitG, DL.partitionG, DL.startsG, DL.joinG, DL.dClear, List.getElem?_cons_zero, List.getElem?_cons_succ, List.set_cons_zero, List.set_cons_succ, List.length_cons, List.length_nil, List.map_cons, List.map_nil, List.replicate_succ, List.replicate_zero, List.nil_append, List.cons_append, Nat.reduceAdd, Nat.reduceSub, Bool.bne_false, Bool.bne_true, Bool.not_true, Bool.not_false, decide_eq_true_eq, Bool.false_eq_true, reduceIte, and_true, true_and, if_true, if_false, decide_true, decide_false, strsD_lines]
    have h1 := join_ok h
    have h2 := text_len h
    have h3 := tab_lt h
    exact ⟨fit (by rw [List.length_map]; omega), Nat.le_trans h1 (by decide), fit' (Nat.le_trans (Nat.add_le_add h2 (Nat.le_of_eq hnl)) (by decide)), rfl⟩
theorem lines_loop {D' : DEnds} (h : TabOk r w t) : ∀ (s pre : Tab) (v : Option SV), pre ++ s = t →
    (∀ v, D'.nx [some (.imm (.str r)), some (.imm (.int w)), some (.imm (.dK (tabD t))), some (.own (.lst ((linesS r w t).map .str))), v]) →
    forGo (dSet 4) (sDrop (dAppend 3 (dBin addD (dBin addD (dVar 4) (dC (.str " "))) (dCallP M__law_fraction_text (dCons (dBin (ixD NW) (dVar 2) (dVar 4)) dNil))))) (s.map fun p => .str p.1) D'
      [some (.imm (.str r)), some (.imm (.int w)), some (.imm (.dK (tabD t))), some (.own (.lst ((linesS r w pre).map .str))), v] := by
  intro s
  induction s with
  | nil =>
    intro pre v hp k
    rw [List.append_nil] at hp
    subst hp
    exact k v
  | cons p s ih =>
    intro pre v hp k
    have hpt : p ∈ t := by rw [← hp]; simp
    have hg := tab_get h hpt
    have hl := (st_len (tab_st h hpt)).1
    have hfl := frS_len (h.good p hpt)
    have hs := len_1 tl_sp
    have ht := tab_lt h
    have hpl : pre.length ≤ t.length := by rw [← hp, List.length_append]; omega
    simp only [List.map_cons]
    unfold forGo
    simp only [DL.dVar, DL.dC, DL.dBin, DL.dUn, DL.dTest, DL.dIf, DL.dAnd, DL.dOr, DL.dNot, DL.dAndV, DL.dOrV, DL.dNotV, DL.dChain, DL.dNil, DL.dCons, DL.dTup, DL.dLst, DL.dDK, DL.dFz, DL.dCallL, DL.dCallP, DL.dCallN, DL.dCallT, DL.dCallTN, DL.dMake, DL.dProp, DL.dMeth, DL.dFmt, DL.dJs, DL.look, DL.lookL, DL.frz, DL.frzL, DL.startD, DL.startT, DL.sSeq, DL.sIf, DL.sRet, DL.sRetNew, DL.sRetN, DL.sAsg, DL.sNew, DL.sDrop, DL.sNext, DL.sPar, DL.sFor, DL.dSet, DL.endsP, DL.endsN, DL.endsT, DL.endsTN, DL.SV.toD, DL.Cell.toD, DL.isTy_str, DL.ixD_lst, DL.ixD_tup, DL.ixD_str, DL.ixD_dKs, DL.ixD_dKi, DL.inG_dKs, DL.inG_sign, DL.eqG_int, DL.eqG_str, DL.eqG_bl, DL.addD_int, DL.addD_str, DL.addD_lst, DL.addD_tup, DL.intD_int, DL.cmpD_int, DL.cmpD_str, DL.negD, DL.isNG1, DL.isN, DL.isiG, DL.isD, DL.isAnyG, DL.isAny, DL.isInsG, DL.lenG_str, DL.lenG_lst, DL.lenG_tup, DL.lenG_dK, DL.lenG_scr, DL.intG_int, DL.intG_bl, DL.intG_str, DL.strG, DL.absG, DL.two, DL.listG2_dK, DL.listG2_lst, DL.listG2_tup, DL.listG2_scr, DL.tupleG_lst, DL.tupleG_tup, DL.allG, DL.dSlice, DL.dNo, DL.dPart, DL.cutD_str, DL.cutD_lst, DL.cutD_tup, DL.dGNil, DL.dGCons, DL.dTupT, DL.dIter, DL.dRange1, DL.dRange2, DL.atI_0, DL.atI_1, DL.atI_2, DL.atI_3, DL.atI_4, DL.hotAt, DL.putAt, DL.SV.put, DL.dAppend, DL.dExtend, DL.sStore, DL.storeD, DL.sFldD, DL.putFD, DL.dFld, DL.splitG, DL.partitionG, DL.startsG, DL.joinG, DL.dClear, List.getElem?_cons_zero, List.getElem?_cons_succ, List.set_cons_zero, List.set_cons_succ, List.length_cons, List.length_nil, List.map_cons, List.map_nil, List.replicate_succ, List.replicate_zero, List.nil_append, List.cons_append, Nat.reduceAdd, Nat.reduceSub, Bool.bne_false, Bool.bne_true, Bool.not_true, Bool.not_false, decide_eq_true_eq, Bool.false_eq_true, reduceIte, and_true, true_and, if_true, if_false, decide_true, decide_false, hg, app_len]
    refine ⟨fit (by omega), _, ⟨p.2, h.good p hpt, rfl, rfl⟩, ?_⟩
    simp only [DL.dVar, DL.dC, DL.dBin, DL.dUn, DL.dTest, DL.dIf, DL.dAnd, DL.dOr, DL.dNot, DL.dAndV, DL.dOrV, DL.dNotV, DL.dChain, DL.dNil, DL.dCons, DL.dTup, DL.dLst, DL.dDK, DL.dFz, DL.dCallL, DL.dCallP, DL.dCallN, DL.dCallT, DL.dCallTN, DL.dMake, DL.dProp, DL.dMeth, DL.dFmt, DL.dJs, DL.look, DL.lookL, DL.frz, DL.frzL, DL.startD, DL.startT, DL.sSeq, DL.sIf, DL.sRet, DL.sRetNew, DL.sRetN, DL.sAsg, DL.sNew, DL.sDrop, DL.sNext, DL.sPar, DL.sFor, DL.dSet, DL.endsP, DL.endsN, DL.endsT, DL.endsTN, DL.SV.toD, DL.Cell.toD, DL.isTy_str, DL.ixD_lst, DL.ixD_tup, DL.ixD_str, DL.ixD_dKs, DL.ixD_dKi, DL.inG_dKs, DL.inG_sign, DL.eqG_int, DL.eqG_str, DL.eqG_bl, DL.addD_int, DL.addD_str, DL.addD_lst, DL.addD_tup, DL.intD_int, DL.cmpD_int, DL.cmpD_str, DL.negD, DL.isNG1, DL.isN, DL.isiG, DL.isD, DL.isAnyG, DL.isAny, DL.isInsG, DL.lenG_str, DL.lenG_lst, DL.lenG_tup, DL.lenG_dK, DL.lenG_scr, DL.intG_int, DL.intG_bl, DL.intG_str, DL.strG, DL.absG, DL.two, DL.listG2_dK, DL.listG2_lst, DL.listG2_tup, DL.listG2_scr, DL.tupleG_lst, DL.tupleG_tup, DL.allG, DL.dSlice, DL.dNo, DL.dPart, DL.cutD_str, DL.cutD_lst, DL.cutD_tup, DL.dGNil, DL.dGCons, DL.dTupT, DL.dIter, DL.dRange1, DL.dRange2, DL.atI_0, DL.atI_1, DL.atI_2, DL.atI_3, DL.atI_4, DL.hotAt, DL.putAt, DL.SV.put, DL.dAppend, DL.dExtend, DL.sStore, DL.storeD, DL.sFldD, DL.putFD, DL.dFld, DL.splitG, DL.partitionG, DL.startsG, DL.joinG, DL.dClear, List.getElem?_cons_zero, List.getElem?_cons_succ, List.set_cons_zero, List.set_cons_succ, List.length_cons, List.length_nil, List.map_cons, List.map_nil, List.replicate_succ, List.replicate_zero, List.nil_append, List.cons_append, Nat.reduceAdd, Nat.reduceSub, Bool.bne_false, Bool.bne_true, Bool.not_true, Bool.not_false, decide_eq_true_eq, Bool.false_eq_true, reduceIte, and_true, true_and, if_true, if_false, decide_true, decide_false, app_len]
    refine ⟨fit (by omega), ?_, ?_⟩
    · unfold linesS
      rw [List.length_map, List.length_cons, List.length_map]
      exact Nat.lt_of_lt_of_le (show pre.length + 1 < 1000 by omega) (by decide)
    · have e : (linesS r w pre).map D.str ++ [D.str (p.1 ++ Str.ofString " " ++ frS p.2)] = (linesS r w (pre ++ [p])).map D.str := by
        unfold linesS
        simp
        rfl
      rw [e]
      exact ih (pre ++ [p]) _ (by simpa using hp) k
theorem h__law_prices_text : ∀ ds r, M__law_prices_text ds r → t__law_prices_text (endsP r) (startD N__law_prices_text.length ds) := by
  rintro _ _ ⟨r, w, t, h, rfl, rfl⟩
  have hr4 := h.four
  rw [← len_tl] at hr4
  have hn := numS_len (w_sm h.toSz)
  have hp : (Str.ofString "prices ").length = 7 := by rw [len_tl, tl_ps]; rfl
  have hs := len_1 tl_sp
  have hnl := len_1 tl_nl
  unfold numS at hn
  have ek : (tabD t).map (fun p => kD p.1) = (names r w).map D.str := by
    rw [← h.keys, List.map_map]; unfold tabD; rw [List.map_map]; rfl
  have en : (names r w).map D.str = t.map fun p => .str p.1 := by rw [← h.keys, List.map_map]; rfl
  simp only [DL.dVar, DL.dC, DL.dBin, DL.dUn, DL.dTest, DL.dIf, DL.dAnd, DL.dOr, DL.dNot, DL.dAndV, DL.dOrV, DL.dNotV, DL.dChain, DL.dNil, DL.dCons, DL.dTup, DL.dLst, DL.dDK, DL.dFz, DL.dCallL, DL.dCallP, DL.dCallN, DL.dCallT, DL.dCallTN, DL.dMake, DL.dProp, DL.dMeth, DL.dFmt, DL.dJs, DL.look, DL.lookL, DL.frz, DL.frzL, DL.startD, DL.startT, DL.sSeq, DL.sIf, DL.sRet, DL.sRetNew, DL.sRetN, DL.sAsg, DL.sNew, DL.sDrop, DL.sNext, DL.sPar, DL.sFor, DL.dSet, DL.endsP, DL.endsN, DL.endsT, DL.endsTN, DL.SV.toD, DL.Cell.toD, DL.isTy_str, DL.ixD_lst, DL.ixD_tup, DL.ixD_str, DL.ixD_dKs, DL.ixD_dKi, DL.inG_dKs, DL.inG_sign, DL.eqG_int, DL.eqG_str, DL.eqG_bl, DL.addD_int, DL.addD_str, DL.addD_lst, DL.addD_tup, DL.intD_int, DL.cmpD_int, DL.cmpD_str, DL.negD, DL.isNG1, DL.isN, DL.isiG, DL.isD, DL.isAnyG, DL.isAny, DL.isInsG, DL.lenG_str, DL.lenG_lst, DL.lenG_tup, DL.lenG_dK, DL.lenG_scr, DL.intG_int, DL.intG_bl, DL.intG_str, DL.strG, DL.absG, DL.two, DL.listG2_dK, DL.listG2_lst, DL.listG2_tup, DL.listG2_scr, DL.tupleG_lst, DL.tupleG_tup, DL.allG, DL.dSlice, DL.dNo, DL.dPart, DL.cutD_str, DL.cutD_lst, DL.cutD_tup, DL.dGNil, DL.dGCons, DL.dTupT, DL.dIter, DL.dRange1, DL.dRange2, DL.atI_0, DL.atI_1, DL.atI_2, DL.atI_3, DL.atI_4, DL.hotAt, DL.putAt, DL.SV.put, DL.dAppend, DL.dExtend, DL.sStore, DL.storeD, DL.sFldD, DL.putFD, DL.dFld, DL.splitG, DL.partitionG, DL.startsG, DL.joinG, DL.dClear, List.getElem?_cons_zero, List.getElem?_cons_succ, List.set_cons_zero, List.set_cons_succ, List.length_cons, List.length_nil, List.map_cons, List.map_nil, List.replicate_succ, List.replicate_zero, List.nil_append, List.cons_append, Nat.reduceAdd, Nat.reduceSub, Bool.bne_false, Bool.bne_true, Bool.not_true, Bool.not_false, decide_eq_true_eq, Bool.false_eq_true, reduceIte, and_true, true_and, if_true, if_false, decide_true, decide_false, t__law_prices_text, app_len]
  refine ⟨fit (by omega), fit (by omega), log_w h.toSz, fit (by omega), by decide, ?_⟩
  simp only [DL.dVar, DL.dC, DL.dBin, DL.dUn, DL.dTest, DL.dIf, DL.dAnd, DL.dOr, DL.dNot, DL.dAndV, DL.dOrV, DL.dNotV, DL.dChain, DL.dNil, DL.dCons, DL.dTup, DL.dLst, DL.dDK, DL.dFz, DL.dCallL, DL.dCallP, DL.dCallN, DL.dCallT, DL.dCallTN, DL.dMake, DL.dProp, DL.dMeth, DL.dFmt, DL.dJs, DL.look, DL.lookL, DL.frz, DL.frzL, DL.startD, DL.startT, DL.sSeq, DL.sIf, DL.sRet, DL.sRetNew, DL.sRetN, DL.sAsg, DL.sNew, DL.sDrop, DL.sNext, DL.sPar, DL.sFor, DL.dSet, DL.endsP, DL.endsN, DL.endsT, DL.endsTN, DL.SV.toD, DL.Cell.toD, DL.isTy_str, DL.ixD_lst, DL.ixD_tup, DL.ixD_str, DL.ixD_dKs, DL.ixD_dKi, DL.inG_dKs, DL.inG_sign, DL.eqG_int, DL.eqG_str, DL.eqG_bl, DL.addD_int, DL.addD_str, DL.addD_lst, DL.addD_tup, DL.intD_int, DL.cmpD_int, DL.cmpD_str, DL.negD, DL.isNG1, DL.isN, DL.isiG, DL.isD, DL.isAnyG, DL.isAny, DL.isInsG, DL.lenG_str, DL.lenG_lst, DL.lenG_tup, DL.lenG_dK, DL.lenG_scr, DL.intG_int, DL.intG_bl, DL.intG_str, DL.strG, DL.absG, DL.two, DL.listG2_dK, DL.listG2_lst, DL.listG2_tup, DL.listG2_scr, DL.tupleG_lst, DL.tupleG_tup, DL.allG, DL.dSlice, DL.dNo, DL.dPart, DL.cutD_str, DL.cutD_lst, DL.cutD_tup, DL.dGNil, DL.dGCons, DL.dTupT, DL.dIter, DL.dRange1, DL.dRange2, DL.atI_0, DL.atI_1, DL.atI_2, DL.atI_3, DL.atI_4, DL.hotAt, DL.putAt, DL.SV.put, DL.dAppend, DL.dExtend, DL.sStore, DL.storeD, DL.sFldD, DL.putFD, DL.dFld, DL.splitG, DL.partitionG, DL.startsG, DL.joinG, DL.dClear, List.getElem?_cons_zero, List.getElem?_cons_succ, List.set_cons_zero, List.set_cons_succ, List.length_cons, List.length_nil, List.map_cons, List.map_nil, List.replicate_succ, List.replicate_zero, List.nil_append, List.cons_append, Nat.reduceAdd, Nat.reduceSub, Bool.bne_false, Bool.bne_true, Bool.not_true, Bool.not_false, decide_eq_true_eq, Bool.false_eq_true, reduceIte, and_true, true_and, if_true, if_false, decide_true, decide_false, ek, sortedG2, sortedG, strsD_map, sort_names, List.length_map]
  refine ⟨names_len h.toSz, ?_⟩
  rw [en]
  refine lines_loop h t [] none rfl fun v => ?_
  simp only [DL.dVar, DL.dC, DL.dBin, DL.dUn, DL.dTest, DL.dIf, DL.dAnd, DL.dOr, DL.dNot, DL.dAndV, DL.dOrV, DL.dNotV, DL.dChain, DL.dNil, DL.dCons, DL.dTup, DL.dLst, DL.dDK, DL.dFz, DL.dCallL, DL.dCallP, DL.dCallN, DL.dCallT, DL.dCallTN, DL.dMake, DL.dProp, DL.dMeth, DL.dFmt, DL.dJs, DL.look, DL.lookL, DL.frz, DL.frzL, DL.startD, DL.startT, DL.sSeq, DL.sIf, DL.sRet, DL.sRetNew, DL.sRetN, DL.sAsg, DL.sNew, DL.sDrop, DL.sNext, DL.sPar, DL.sFor, DL.dSet, DL.endsP, DL.endsN, DL.endsT, DL.endsTN, DL.SV.toD, DL.Cell.toD, DL.isTy_str, DL.ixD_lst, DL.ixD_tup, DL.ixD_str, DL.ixD_dKs, DL.ixD_dKi, DL.inG_dKs, DL.inG_sign, DL.eqG_int, DL.eqG_str, DL.eqG_bl, DL.addD_int, DL.addD_str, DL.addD_lst, DL.addD_tup, DL.intD_int, DL.cmpD_int, DL.cmpD_str, DL.negD, DL.isNG1, DL.isN, DL.isiG, DL.isD, DL.isAnyG, DL.isAny, DL.isInsG, DL.lenG_str, DL.lenG_lst, DL.lenG_tup, DL.lenG_dK, DL.lenG_scr, DL.intG_int, DL.intG_bl, DL.intG_str, DL.strG, DL.absG, DL.two, DL.listG2_dK, DL.listG2_lst, DL.listG2_tup, DL.listG2_scr, DL.tupleG_lst, DL.tupleG_tup, DL.allG, DL.dSlice, DL.dNo, DL.dPart, DL.cutD_str, DL.cutD_lst, DL.cutD_tup, DL.dGNil, DL.dGCons, DL.dTupT, DL.dIter, DL.dRange1, DL.dRange2, DL.atI_0, DL.atI_1, DL.atI_2, DL.atI_3, DL.atI_4, DL.hotAt, DL.putAt, DL.SV.put, DL.dAppend, DL.dExtend, DL.sStore, DL.storeD, DL.sFldD, DL.putFD, DL.dFld, DL.splitG, DL.partitionG, DL.startsG, DL.joinG, DL.dClear, List.getElem?_cons_zero, List.getElem?_cons_succ, List.set_cons_zero, List.set_cons_succ, List.length_cons, List.length_nil, List.map_cons, List.map_nil, List.replicate_succ, List.replicate_zero, List.nil_append, List.cons_append, Nat.reduceAdd, Nat.reduceSub, Bool.bne_false, Bool.bne_true, Bool.not_true, Bool.not_false, decide_eq_true_eq, Bool.false_eq_true, reduceIte, and_true, true_and, if_true, if_false, decide_true, decide_false, strsD_map, app_len]
  refine ⟨Nat.le_trans (join_ok h) (by decide), fit' ?_, rfl⟩
  have := text_len h
  omega
theorem numS_st (a : Int) : Txt.startswith (numS a) (Str.ofString "-") = decide (a < 0) := by
  rw [starts1 tl_mi]
  refine decide_eq_decide.mpr ?_
  rcases Int.lt_or_le a 0 with z | z
  · obtain ⟨n, rfl⟩ : ∃ n : Nat, a = -(n : Int) := ⟨a.natAbs, by omega⟩
    rw [tl_numS_neg n (by omega)]
    simp; omega
  · obtain ⟨n, rfl⟩ := Int.eq_ofNat_of_zero_le z
    refine ⟨fun h => ?_, fun h => by omega⟩
    have h : (tl (numS (n : Int))).head? = some 45 := h
    rw [tl_numS] at h
    cases q : numL n with
    | nil => rw [q] at h; cases h
    | cons c l =>
      rw [q] at h
      have := numL_digits n c (by rw [q]; exact List.mem_cons_self)
      simp at h
      omega
theorem numS_cut {a : Int} (h : a < 0) : cutS (numS a) (some 1) none = numS (a.natAbs : Int) := by
  obtain ⟨n, rfl⟩ : ∃ n : Nat, a = -(n : Int) := ⟨a.natAbs, by omega⟩
  refine ext_tl ?_
  rw [tl_cut1 (tl_numS_neg n (by omega)), Int.natAbs_neg, Int.natAbs_natCast, tl_numS]
theorem numS_abs {a : Int} (h : ¬ a < 0) : numS a = numS (a.natAbs : Int) := by
  congr 1; omega
theorem numS_m0 (a : Int) : ¬ numS a = Str.ofString "-0" := fun h => by
  have e : tl (Str.ofString "-0") = [45, 48] := by decide +kernel
  have h := congrArg tl h
  rw [e] at h
  rcases Int.lt_or_le a 0 with z | z
  · obtain ⟨n, rfl⟩ : ∃ n : Nat, a = -(n : Int) := ⟨a.natAbs, by omega⟩
    rw [tl_numS_neg n (by omega)] at h
    have h := (List.cons.inj h).2
    have := numL_head n (by omega)
    rw [h] at this
    simp at this
  · obtain ⟨n, rfl⟩ := Int.eq_ofNat_of_zero_le z
    have h : tl (numS (n : Int)) = [45, 48] := h
    rw [tl_numS] at h
    have := numL_digits n 45 (by rw [h]; simp)
    omega
theorem no_slash (a : Int) : (47 : Nat) ∉ tl (numS a) := fun z => by have := numS_signs z; omega
theorem h_fraction_of : ∀ ds r, M_fraction_of ds r → t_fraction_of (endsP r) (startD N_fraction_of.length ds) := by
  rintro _ _ ⟨⟨a, b⟩, h, rfl, rfl⟩
  have hl := frS_len h
  obtain ⟨h1, h2, h3, h4⟩ := h
  simp only at h1 h2 h3
  have hla := numS_len h1
  have hsl := len_1 tl_slash
  have hab : a.natAbs < 10 ^ 52 := h1
  have hm0 := numS_m0 a
  have fin : (numS a).length ≤ sizeLine := fit (by omega)
  by_cases hb : b = 1
  · subst hb
    have e1 : frS (a, 1) = numS a := if_pos rfl
    have e2 : Txt.partition (numS a) (Str.ofString "/") = (numS a, Str.empty, Str.empty) := partition_none tl_slash (no_slash a)
    rw [e1] at hl ⊢
    have ne : ¬ Str.empty = Str.ofString "/" := by decide +kernel
    by_cases z : a < 0
    · simp only [DL.dVar, DL.dC, DL.dBin, DL.dUn, DL.dTest, DL.dIf, DL.dAnd, DL.dOr, DL.dNot, DL.dAndV, DL.dOrV, DL.dNotV, DL.dChain, DL.dNil, DL.dCons, DL.dTup, DL.dLst, DL.dDK, DL.dFz, DL.dCallL, DL.dCallP, DL.dCallN, DL.dCallT, DL.dCallTN, DL.dMake, DL.dProp, DL.dMeth, DL.dFmt, DL.dJs, DL.look, DL.lookL, DL.frz, DL.frzL, DL.startD, DL.startT, DL.sSeq, DL.sIf, DL.sRet, DL.sRetNew, DL.sRetN, DL.sAsg, DL.sNew, DL.sDrop, DL.sNext, DL.sPar, DL.sFor, DL.dSet, DL.endsP, DL.endsN, DL.endsT, DL.endsTN, DL.SV.toD, DL.Cell.toD, DL.isTy_str, DL.ixD_lst, DL.ixD_tup, DL.ixD_str, DL.ixD_dKs, DL.ixD_dKi, DL.inG_dKs, DL.inG_sign, DL.eqG_int, DL.eqG_str, DL.eqG_bl, DL.addD_int, DL.addD_str, DL.addD_lst, DL.addD_tup, DL.intD_int, DL.cmpD_int, DL.cmpD_str, DL.negD, DL.isNG1, DL.isN, DL.isiG, DL.isD, DL.isAnyG, DL.isAny, DL.isInsG, DL.lenG_str, DL.lenG_lst, DL.lenG_tup, DL.lenG_dK, DL.lenG_scr, DL.intG_int, DL.intG_bl, DL.intG_str, DL.strG, DL.absG, DL.two, DL.listG2_dK, DL.listG2_lst, DL.listG2_tup, DL.listG2_scr, DL.tupleG_lst, DL.tupleG_tup, DL.allG, DL.dSlice, DL.dNo, DL.dPart, DL.cutD_str, DL.cutD_lst, DL.cutD_tup, DL.dGNil, DL.dGCons, DL.dTupT, DL.dIter, DL.dRange1, DL.dRange2, DL.atI_0, DL.atI_1, DL.atI_2, DL.atI_3, DL.atI_4, DL.hotAt, DL.putAt, DL.SV.put, DL.dAppend, DL.dExtend, DL.sStore, DL.storeD, DL.sFldD, DL.putFD, DL.dFld, DL.splitG, DL.partitionG, DL.startsG, DL.joinG, DL.dClear, List.getElem?_cons_zero, List.getElem?_cons_succ, List.set_cons_zero, List.set_cons_succ, List.length_cons, List.length_nil, List.map_cons, List.map_nil, List.replicate_succ, List.replicate_zero, List.nil_append, List.cons_append, Nat.reduceAdd, Nat.reduceSub, Bool.bne_false, Bool.bne_true, Bool.not_true, Bool.not_false, decide_eq_true_eq, Bool.false_eq_true, reduceIte, and_true, true_and, if_true, if_false, decide_true, decide_false, t_fraction_of, e2, hsl, numS_st, z, fin, numS_cut z, ne, hm0]
      refine ⟨rfl, _, ⟨a.natAbs, hab, rfl, rfl⟩, ?_⟩
      simp only [DL.dVar, DL.dC, DL.dBin, DL.dUn, DL.dTest, DL.dIf, DL.dAnd, DL.dOr, DL.dNot, DL.dAndV, DL.dOrV, DL.dNotV, DL.dChain, DL.dNil, DL.dCons, DL.dTup, DL.dLst, DL.dDK, DL.dFz, DL.dCallL, DL.dCallP, DL.dCallN, DL.dCallT, DL.dCallTN, DL.dMake, DL.dProp, DL.dMeth, DL.dFmt, DL.dJs, DL.look, DL.lookL, DL.frz, DL.frzL, DL.startD, DL.startT, DL.sSeq, DL.sIf, DL.sRet, DL.sRetNew, DL.sRetN, DL.sAsg, DL.sNew, DL.sDrop, DL.sNext, DL.sPar, DL.sFor, DL.dSet, DL.endsP, DL.endsN, DL.endsT, DL.endsTN, DL.SV.toD, DL.Cell.toD, DL.isTy_str, DL.ixD_lst, DL.ixD_tup, DL.ixD_str, DL.ixD_dKs, DL.ixD_dKi, DL.inG_dKs, DL.inG_sign, DL.eqG_int, DL.eqG_str, DL.eqG_bl, DL.addD_int, DL.addD_str, DL.addD_lst, DL.addD_tup, DL.intD_int, DL.cmpD_int, DL.cmpD_str, DL.negD, DL.isNG1, DL.isN, DL.isiG, DL.isD, DL.isAnyG, DL.isAny, DL.isInsG, DL.lenG_str, DL.lenG_lst, DL.lenG_tup, DL.lenG_dK, DL.lenG_scr, DL.intG_int, DL.intG_bl, DL.intG_str, DL.strG, DL.absG, DL.two, DL.listG2_dK, DL.listG2_lst, DL.listG2_tup, DL.listG2_scr, DL.tupleG_lst, DL.tupleG_tup, DL.allG, DL.dSlice, DL.dNo, DL.dPart, DL.cutD_str, DL.cutD_lst, DL.cutD_tup, DL.dGNil, DL.dGCons, DL.dTupT, DL.dIter, DL.dRange1, DL.dRange2, DL.atI_0, DL.atI_1, DL.atI_2, DL.atI_3, DL.atI_4, DL.hotAt, DL.putAt, DL.SV.put, DL.dAppend, DL.dExtend, DL.sStore, DL.storeD, DL.sFldD, DL.putFD, DL.dFld, DL.splitG, DL.partitionG, DL.startsG, DL.joinG, DL.dClear, List.getElem?_cons_zero, List.getElem?_cons_succ, List.set_cons_zero, List.set_cons_succ, List.length_cons, List.length_nil, List.map_cons, List.map_nil, List.replicate_succ, List.replicate_zero, List.nil_append, List.cons_append, Nat.reduceAdd, Nat.reduceSub, Bool.bne_false, Bool.bne_true, Bool.not_true, Bool.not_false, decide_eq_true_eq, Bool.false_eq_true, reduceIte, and_true, true_and, if_true, if_false, decide_true, decide_false, frD]
      exact ⟨by decide, by rw [show -((a.natAbs : Nat) : Int) = a by omega]⟩
    · simp only [DL.dVar, DL.dC, DL.dBin, DL.dUn, DL.dTest, DL.dIf, DL.dAnd, DL.dOr, DL.dNot, DL.dAndV, DL.dOrV, DL.dNotV, DL.dChain, DL.dNil, DL.dCons, DL.dTup, DL.dLst, DL.dDK, DL.dFz, DL.dCallL, DL.dCallP, DL.dCallN, DL.dCallT, DL.dCallTN, DL.dMake, DL.dProp, DL.dMeth, DL.dFmt, DL.dJs, DL.look, DL.lookL, DL.frz, DL.frzL, DL.startD, DL.startT, DL.sSeq, DL.sIf, DL.sRet, DL.sRetNew, DL.sRetN, DL.sAsg, DL.sNew, DL.sDrop, DL.sNext, DL.sPar, DL.sFor, DL.dSet, DL.endsP, DL.endsN, DL.endsT, DL.endsTN, DL.SV.toD, DL.Cell.toD, DL.isTy_str, DL.ixD_lst, DL.ixD_tup, DL.ixD_str, DL.ixD_dKs, DL.ixD_dKi, DL.inG_dKs, DL.inG_sign, DL.eqG_int, DL.eqG_str, DL.eqG_bl, DL.addD_int, DL.addD_str, DL.addD_lst, DL.addD_tup, DL.intD_int, DL.cmpD_int, DL.cmpD_str, DL.negD, DL.isNG1, DL.isN, DL.isiG, DL.isD, DL.isAnyG, DL.isAny, DL.isInsG, DL.lenG_str, DL.lenG_lst, DL.lenG_tup, DL.lenG_dK, DL.lenG_scr, DL.intG_int, DL.intG_bl, DL.intG_str, DL.strG, DL.absG, DL.two, DL.listG2_dK, DL.listG2_lst, DL.listG2_tup, DL.listG2_scr, DL.tupleG_lst, DL.tupleG_tup, DL.allG, DL.dSlice, DL.dNo, DL.dPart, DL.cutD_str, DL.cutD_lst, DL.cutD_tup, DL.dGNil, DL.dGCons, DL.dTupT, DL.dIter, DL.dRange1, DL.dRange2, DL.atI_0, DL.atI_1, DL.atI_2, DL.atI_3, DL.atI_4, DL.hotAt, DL.putAt, DL.SV.put, DL.dAppend, DL.dExtend, DL.sStore, DL.storeD, DL.sFldD, DL.putFD, DL.dFld, DL.splitG, DL.partitionG, DL.startsG, DL.joinG, DL.dClear, List.getElem?_cons_zero, List.getElem?_cons_succ, List.set_cons_zero, List.set_cons_succ, List.length_cons, List.length_nil, List.map_cons, List.map_nil, List.replicate_succ, List.replicate_zero, List.nil_append, List.cons_append, Nat.reduceAdd, Nat.reduceSub, Bool.bne_false, Bool.bne_true, Bool.not_true, Bool.not_false, decide_eq_true_eq, Bool.false_eq_true, reduceIte, and_true, true_and, if_true, if_false, decide_true, decide_false, t_fraction_of, e2, hsl, numS_st, z, fin, ne, hm0]
      refine ⟨rfl, _, ⟨a.natAbs, hab, by rw [← numS_abs z], rfl⟩, ?_⟩
      simp only [DL.dVar, DL.dC, DL.dBin, DL.dUn, DL.dTest, DL.dIf, DL.dAnd, DL.dOr, DL.dNot, DL.dAndV, DL.dOrV, DL.dNotV, DL.dChain, DL.dNil, DL.dCons, DL.dTup, DL.dLst, DL.dDK, DL.dFz, DL.dCallL, DL.dCallP, DL.dCallN, DL.dCallT, DL.dCallTN, DL.dMake, DL.dProp, DL.dMeth, DL.dFmt, DL.dJs, DL.look, DL.lookL, DL.frz, DL.frzL, DL.startD, DL.startT, DL.sSeq, DL.sIf, DL.sRet, DL.sRetNew, DL.sRetN, DL.sAsg, DL.sNew, DL.sDrop, DL.sNext, DL.sPar, DL.sFor, DL.dSet, DL.endsP, DL.endsN, DL.endsT, DL.endsTN, DL.SV.toD, DL.Cell.toD, DL.isTy_str, DL.ixD_lst, DL.ixD_tup, DL.ixD_str, DL.ixD_dKs, DL.ixD_dKi, DL.inG_dKs, DL.inG_sign, DL.eqG_int, DL.eqG_str, DL.eqG_bl, DL.addD_int, DL.addD_str, DL.addD_lst, DL.addD_tup, DL.intD_int, DL.cmpD_int, DL.cmpD_str, DL.negD, DL.isNG1, DL.isN, DL.isiG, DL.isD, DL.isAnyG, DL.isAny, DL.isInsG, DL.lenG_str, DL.lenG_lst, DL.lenG_tup, DL.lenG_dK, DL.lenG_scr, DL.intG_int, DL.intG_bl, DL.intG_str, DL.strG, DL.absG, DL.two, DL.listG2_dK, DL.listG2_lst, DL.listG2_tup, DL.listG2_scr, DL.tupleG_lst, DL.tupleG_tup, DL.allG, DL.dSlice, DL.dNo, DL.dPart, DL.cutD_str, DL.cutD_lst, DL.cutD_tup, DL.dGNil, DL.dGCons, DL.dTupT, DL.dIter, DL.dRange1, DL.dRange2, DL.atI_0, DL.atI_1, DL.atI_2, DL.atI_3, DL.atI_4, DL.hotAt, DL.putAt, DL.SV.put, DL.dAppend, DL.dExtend, DL.sStore, DL.storeD, DL.sFldD, DL.putFD, DL.dFld, DL.splitG, DL.partitionG, DL.startsG, DL.joinG, DL.dClear, List.getElem?_cons_zero, List.getElem?_cons_succ, List.set_cons_zero, List.set_cons_succ, List.length_cons, List.length_nil, List.map_cons, List.map_nil, List.replicate_succ, List.replicate_zero, List.nil_append, List.cons_append, Nat.reduceAdd, Nat.reduceSub, Bool.bne_false, Bool.bne_true, Bool.not_true, Bool.not_false, decide_eq_true_eq, Bool.false_eq_true, reduceIte, and_true, true_and, if_true, if_false, decide_true, decide_false, frD]
      exact ⟨by decide, by rw [show ((a.natAbs : Nat) : Int) = a by omega]⟩
  · have e1 : frS (a, b) = numS a ++ Str.ofString "/" ++ numS b := if_neg hb
    have e2 : Txt.partition (numS a ++ Str.ofString "/" ++ numS b) (Str.ofString "/") = (numS a, Str.ofString "/", numS b) := partition_app tl_slash (no_slash a)
    have e3 : numS b = numS (b.natAbs : Int) := by congr 1; omega
    have hlb : (numS a ++ Str.ofString "/" ++ numS b).length ≤ 107 := by rw [← e1]; exact hl
    have fin2 := fit (Nat.le_trans hlb (by decide))
    rw [e1]
    have hbb : ¬ ((b.natAbs : Nat) : Int) < 2 := by omega
    by_cases z : a < 0
    · simp only [DL.dVar, DL.dC, DL.dBin, DL.dUn, DL.dTest, DL.dIf, DL.dAnd, DL.dOr, DL.dNot, DL.dAndV, DL.dOrV, DL.dNotV, DL.dChain, DL.dNil, DL.dCons, DL.dTup, DL.dLst, DL.dDK, DL.dFz, DL.dCallL, DL.dCallP, DL.dCallN, DL.dCallT, DL.dCallTN, DL.dMake, DL.dProp, DL.dMeth, DL.dFmt, DL.dJs, DL.look, DL.lookL, DL.frz, DL.frzL, DL.startD, DL.startT, DL.sSeq, DL.sIf, DL.sRet, DL.sRetNew, DL.sRetN, DL.sAsg, DL.sNew, DL.sDrop, DL.sNext, DL.sPar, DL.sFor, DL.dSet, DL.endsP, DL.endsN, DL.endsT, DL.endsTN, DL.SV.toD, DL.Cell.toD, DL.isTy_str, DL.ixD_lst, DL.ixD_tup, DL.ixD_str, DL.ixD_dKs, DL.ixD_dKi, DL.inG_dKs, DL.inG_sign, DL.eqG_int, DL.eqG_str, DL.eqG_bl, DL.addD_int, DL.addD_str, DL.addD_lst, DL.addD_tup, DL.intD_int, DL.cmpD_int, DL.cmpD_str, DL.negD, DL.isNG1, DL.isN, DL.isiG, DL.isD, DL.isAnyG, DL.isAny, DL.isInsG, DL.lenG_str, DL.lenG_lst, DL.lenG_tup, DL.lenG_dK, DL.lenG_scr, DL.intG_int, DL.intG_bl, DL.intG_str, DL.strG, DL.absG, DL.two, DL.listG2_dK, DL.listG2_lst, DL.listG2_tup, DL.listG2_scr, DL.tupleG_lst, DL.tupleG_tup, DL.allG, DL.dSlice, DL.dNo, DL.dPart, DL.cutD_str, DL.cutD_lst, DL.cutD_tup, DL.dGNil, DL.dGCons, DL.dTupT, DL.dIter, DL.dRange1, DL.dRange2, DL.atI_0, DL.atI_1, DL.atI_2, DL.atI_3, DL.atI_4, DL.hotAt, DL.putAt, DL.SV.put, DL.dAppend, DL.dExtend, DL.sStore, DL.storeD, DL.sFldD, DL.putFD, DL.dFld, DL.splitG, DL.partitionG, DL.startsG, DL.joinG, DL.dClear, List.getElem?_cons_zero, List.getElem?_cons_succ, List.set_cons_zero, List.set_cons_succ, List.length_cons, List.length_nil, List.map_cons, List.map_nil, List.replicate_succ, List.replicate_zero, List.nil_append, List.cons_append, Nat.reduceAdd, Nat.reduceSub, Bool.bne_false, Bool.bne_true, Bool.not_true, Bool.not_false, decide_eq_true_eq, Bool.false_eq_true, reduceIte, and_true, true_and, if_true, if_false, decide_true, decide_false, t_fraction_of, e2, hsl, numS_st, z, fin, fin2, numS_cut z, hm0]
      refine ⟨rfl, _, ⟨a.natAbs, hab, rfl, rfl⟩, _, ⟨b.natAbs, by omega, by rw [← e3], rfl⟩, ?_⟩
      simp only [DL.dVar, DL.dC, DL.dBin, DL.dUn, DL.dTest, DL.dIf, DL.dAnd, DL.dOr, DL.dNot, DL.dAndV, DL.dOrV, DL.dNotV, DL.dChain, DL.dNil, DL.dCons, DL.dTup, DL.dLst, DL.dDK, DL.dFz, DL.dCallL, DL.dCallP, DL.dCallN, DL.dCallT, DL.dCallTN, DL.dMake, DL.dProp, DL.dMeth, DL.dFmt, DL.dJs, DL.look, DL.lookL, DL.frz, DL.frzL, DL.startD, DL.startT, DL.sSeq, DL.sIf, DL.sRet, DL.sRetNew, DL.sRetN, DL.sAsg, DL.sNew, DL.sDrop, DL.sNext, DL.sPar, DL.sFor, DL.dSet, DL.endsP, DL.endsN, DL.endsT, DL.endsTN, DL.SV.toD, DL.Cell.toD, DL.isTy_str, DL.ixD_lst, DL.ixD_tup, DL.ixD_str, DL.ixD_dKs, DL.ixD_dKi, DL.inG_dKs, DL.inG_sign, DL.eqG_int, DL.eqG_str, DL.eqG_bl, DL.addD_int, DL.addD_str, DL.addD_lst, DL.addD_tup, DL.intD_int, DL.cmpD_int, DL.cmpD_str, DL.negD, DL.isNG1, DL.isN, DL.isiG, DL.isD, DL.isAnyG, DL.isAny, DL.isInsG, DL.lenG_str, DL.lenG_lst, DL.lenG_tup, DL.lenG_dK, DL.lenG_scr, DL.intG_int, DL.intG_bl, DL.intG_str, DL.strG, DL.absG, DL.two, DL.listG2_dK, DL.listG2_lst, DL.listG2_tup, DL.listG2_scr, DL.tupleG_lst, DL.tupleG_tup, DL.allG, DL.dSlice, DL.dNo, DL.dPart, DL.cutD_str, DL.cutD_lst, DL.cutD_tup, DL.dGNil, DL.dGCons, DL.dTupT, DL.dIter, DL.dRange1, DL.dRange2, DL.atI_0, DL.atI_1, DL.atI_2, DL.atI_3, DL.atI_4, DL.hotAt, DL.putAt, DL.SV.put, DL.dAppend, DL.dExtend, DL.sStore, DL.storeD, DL.sFldD, DL.putFD, DL.dFld, DL.splitG, DL.partitionG, DL.startsG, DL.joinG, DL.dClear, List.getElem?_cons_zero, List.getElem?_cons_succ, List.set_cons_zero, List.set_cons_succ, List.length_cons, List.length_nil, List.map_cons, List.map_nil, List.replicate_succ, List.replicate_zero, List.nil_append, List.cons_append, Nat.reduceAdd, Nat.reduceSub, Bool.bne_false, Bool.bne_true, Bool.not_true, Bool.not_false, decide_eq_true_eq, Bool.false_eq_true, reduceIte, and_true, true_and, if_true, if_false, decide_true, decide_false, frD, hbb]
      exact ⟨by decide, by rw [show -((a.natAbs : Nat) : Int) = a by omega, show ((b.natAbs : Nat) : Int) = b by omega]⟩
    · simp only [DL.dVar, DL.dC, DL.dBin, DL.dUn, DL.dTest, DL.dIf, DL.dAnd, DL.dOr, DL.dNot, DL.dAndV, DL.dOrV, DL.dNotV, DL.dChain, DL.dNil, DL.dCons, DL.dTup, DL.dLst, DL.dDK, DL.dFz, DL.dCallL, DL.dCallP, DL.dCallN, DL.dCallT, DL.dCallTN, DL.dMake, DL.dProp, DL.dMeth, DL.dFmt, DL.dJs, DL.look, DL.lookL, DL.frz, DL.frzL, DL.startD, DL.startT, DL.sSeq, DL.sIf, DL.sRet, DL.sRetNew, DL.sRetN, DL.sAsg, DL.sNew, DL.sDrop, DL.sNext, DL.sPar, DL.sFor, DL.dSet, DL.endsP, DL.endsN, DL.endsT, DL.endsTN, DL.SV.toD, DL.Cell.toD, DL.isTy_str, DL.ixD_lst, DL.ixD_tup, DL.ixD_str, DL.ixD_dKs, DL.ixD_dKi, DL.inG_dKs, DL.inG_sign, DL.eqG_int, DL.eqG_str, DL.eqG_bl, DL.addD_int, DL.addD_str, DL.addD_lst, DL.addD_tup, DL.intD_int, DL.cmpD_int, DL.cmpD_str, DL.negD, DL.isNG1, DL.isN, DL.isiG, DL.isD, DL.isAnyG, DL.isAny, DL.isInsG, DL.lenG_str, DL.lenG_lst, DL.lenG_tup, DL.lenG_dK, DL.lenG_scr, DL.intG_int, DL.intG_bl, DL.intG_str, DL.strG, DL.absG, DL.two, DL.listG2_dK, DL.listG2_lst, DL.listG2_tup, DL.listG2_scr, DL.tupleG_lst, DL.tupleG_tup, DL.allG, DL.dSlice, DL.dNo, DL.dPart, DL.cutD_str, DL.cutD_lst, DL.cutD_tup, DL.dGNil, DL.dGCons, DL.dTupT, DL.dIter, DL.dRange1, DL.dRange2, DL.atI_0, DL.atI_1, DL.atI_2, DL.atI_3, DL.atI_4, DL.hotAt, DL.putAt, DL.SV.put, DL.dAppend, DL.dExtend, DL.sStore, DL.storeD, DL.sFldD, DL.putFD, DL.dFld, DL.splitG, DL.partitionG, DL.startsG, DL.joinG, DL.dClear, List.getElem?_cons_zero, List.getElem?_cons_succ, List.set_cons_zero, List.set_cons_succ, List.length_cons, List.length_nil, List.map_cons, List.map_nil, List.replicate_succ, List.replicate_zero, List.nil_append, List.cons_append, Nat.reduceAdd, Nat.reduceSub, Bool.bne_false, Bool.bne_true, Bool.not_true, Bool.not_false, decide_eq_true_eq, Bool.false_eq_true, reduceIte, and_true, true_and, if_true, if_false, decide_true, decide_false, t_fraction_of, e2, hsl, numS_st, z, fin, fin2, hm0]
      refine ⟨rfl, _, ⟨a.natAbs, hab, by rw [← numS_abs z], rfl⟩, _, ⟨b.natAbs, by omega, by rw [← e3], rfl⟩, ?_⟩
      simp only [DL.dVar, DL.dC, DL.dBin, DL.dUn, DL.dTest, DL.dIf, DL.dAnd, DL.dOr, DL.dNot, DL.dAndV, DL.dOrV, DL.dNotV, DL.dChain, DL.dNil, DL.dCons, DL.dTup, DL.dLst, DL.dDK, DL.dFz, DL.dCallL, DL.dCallP, DL.dCallN, DL.dCallT, DL.dCallTN, DL.dMake, DL.dProp, DL.dMeth, DL.dFmt, DL.dJs, DL.look, DL.lookL, DL.frz, DL.frzL, DL.startD, DL.startT, DL.sSeq, DL.sIf, DL.sRet, DL.sRetNew, DL.sRetN, DL.sAsg, DL.sNew, DL.sDrop, DL.sNext, DL.sPar, DL.sFor, DL.dSet, DL.endsP, DL.endsN, DL.endsT, DL.endsTN, DL.SV.toD, DL.Cell.toD, DL.isTy_str, DL.ixD_lst, DL.ixD_tup, DL.ixD_str, DL.ixD_dKs, DL.ixD_dKi, DL.inG_dKs, DL.inG_sign, DL.eqG_int, DL.eqG_str, DL.eqG_bl, DL.addD_int, DL.addD_str, DL.addD_lst, DL.addD_tup, DL.intD_int, DL.cmpD_int, DL.cmpD_str, DL.negD, DL.isNG1, DL.isN, DL.isiG, DL.isD, DL.isAnyG, DL.isAny, DL.isInsG, DL.lenG_str, DL.lenG_lst, DL.lenG_tup, DL.lenG_dK, DL.lenG_scr, DL.intG_int, DL.intG_bl, DL.intG_str, DL.strG, DL.absG, DL.two, DL.listG2_dK, DL.listG2_lst, DL.listG2_tup, DL.listG2_scr, DL.tupleG_lst, DL.tupleG_tup, DL.allG, DL.dSlice, DL.dNo, DL.dPart, DL.cutD_str, DL.cutD_lst, DL.cutD_tup, DL.dGNil, DL.dGCons, DL.dTupT, DL.dIter, DL.dRange1, DL.dRange2, DL.atI_0, DL.atI_1, DL.atI_2, DL.atI_3, DL.atI_4, DL.hotAt, DL.putAt, DL.SV.put, DL.dAppend, DL.dExtend, DL.sStore, DL.storeD, DL.sFldD, DL.putFD, DL.dFld, DL.splitG, DL.partitionG, DL.startsG, DL.joinG, DL.dClear, List.getElem?_cons_zero, List.getElem?_cons_succ, List.set_cons_zero, List.set_cons_succ, List.length_cons, List.length_nil, List.map_cons, List.map_nil, List.replicate_succ, List.replicate_zero, List.nil_append, List.cons_append, Nat.reduceAdd, Nat.reduceSub, Bool.bne_false, Bool.bne_true, Bool.not_true, Bool.not_false, decide_eq_true_eq, Bool.false_eq_true, reduceIte, and_true, true_and, if_true, if_false, decide_true, decide_false, frD, hbb]
      exact ⟨by decide, by rw [show ((a.natAbs : Nat) : Int) = a by omega, show ((b.natAbs : Nat) : Int) = b by omega]⟩
end K86

set_option Elab.async false
set_option linter.all false
set_option maxRecDepth 100000
set_option maxHeartbeats 2000000
namespace K86
open PySem L2 DL TL
variable {r : Str} {w : Nat} {t : Tab}
theorem lt_of_le {a b : Str} (h : leS a b = true) (n : a ≠ b) : a.cps.toList < b.cps.toList := by
  rcases lt_tri a.cps.toList b.cps.toList with z | z | z
  · rw [PyProof.Rows.ltCps_eq] at z; exact of_decide_eq_true z
  · exact (n (str_ext z)).elim
  · unfold leS at h; rw [z] at h; cases h
theorem keys_lt (h : TabOk r w t) : (t.map (·.1)).Pairwise fun a b => a.cps.toList < b.cps.toList := by
  rw [h.keys]
  have h1 := names_sorted r w
  have h2 := names_nodup h.toSz
  exact (h1.and h2).imp fun q => lt_of_le q.1 q.2
theorem enumD_eq (l : List D) : enumD l = List.zipWith (fun (i : Nat) d => D.tup [.int (i : Nat), d]) (List.range' 0 l.length) l := by
  unfold enumD
  rw [List.range_eq_range']
theorem line_part {p : Str × Int × Int} (h : isSt p.1) : Txt.partition (lineS p) (Str.ofString " ") = (p.1, Str.ofString " ", frS p.2) :=
  partition_app tl_sp fun z => by have := (st_len h).2.2 _ z; omega
theorem tabD_snoc (pre : Tab) (p : Str × Int × Int) (h : p.1 ∉ pre.map (·.1)) : dput (tabD pre) (.inr p.1) (frD p.2) = tabD (pre ++ [p]) := by
  rw [dput_new]
  · unfold tabD; simp
  · unfold tabD
    rw [List.map_map]
    intro z
    obtain ⟨q, hq, e⟩ := List.mem_map.mp z
    exact h (List.mem_map.mpr ⟨q, hq, by injection e⟩)
theorem read_loop {D' : DEnds} {s0 s1 s2 s3 s4 : Option SV} (h : TabOk r w t) : ∀ (s pre : Tab) (k : Nat) (ahead : Str) (v7 v8 v9 v10 v11 v12 : Option SV), pre ++ s = t → (∀ p ∈ s, ahead.cps.toList < p.1.cps.toList) →
    (∀ a v7 v8 v9 v10 v11 v12, D'.nx [s0, s1, s2, s3, s4, some (.own (.dK (tabD t))), a, v7, v8, v9, v10, v11, v12]) →
    forGo (dTupT 2 (dGCons (dSet 7) (dGCons (dSet 8) dGNil))) (sSeq (sAsg (dMeth "str" partitionG (dVar 8) (dCons (dC (.str " ")) dNil)) (dTupT 3 (dGCons (dSet 9) (dGCons (dSet 10) (dGCons (dSet 11) dGNil)))))
  (sSeq (sAsg (dCallP M_fraction_of (dCons (dVar 11) dNil)) (dSet 12))
  (sSeq (sIf (dOr (dNot (dTest (dCallP M_is_stretch (dCons (dVar 9) dNil)))) (dOr (dTest (dUn (isNG1 false) (dVar 12))) (dNot (dTest (dBin ltG (dVar 6) (dVar 9)))))) sNever sNext)
  (sSeq (sStore NW 5 (dVar 12) (dVar 9))
  (sAsg (dVar 9) (dSet 6)))))) (List.zipWith (fun (i : Nat) d => D.tup [.int (i : Nat), d]) (List.range' k s.length) (s.map fun p => .str (lineS p))) D'
      [s0, s1, s2, s3, s4, some (.own (.dK (tabD pre))), some (.imm (.str ahead)), v7, v8, v9, v10, v11, v12] := by
  intro s
  induction s with
  | nil =>
    intro pre k ahead v7 v8 v9 v10 v11 v12 hp _ K
    rw [List.append_nil] at hp
    subst hp
    exact K _ v7 v8 v9 v10 v11 v12
  | cons p s ih =>
    intro pre k ahead v7 v8 v9 v10 v11 v12 hp ha K
    have hpt : p ∈ t := by rw [← hp]; simp
    have hst := tab_st h hpt
    have hll := line_len h hpt
    have hsp := len_1 tl_sp
    have ht := tab_lt h
    have hpl : pre.length < t.length := by rw [← hp, List.length_append, List.length_cons]; omega
    have hlt := keys_lt h
    rw [← hp, List.map_append, List.map_cons] at hlt
    obtain ⟨_, hlt2, hlt3⟩ := List.pairwise_append.mp hlt
    have hnp : p.1 ∉ pre.map (·.1) := fun z => by
      have := hlt3 _ z p.1 List.mem_cons_self
      exact List.lt_irrefl _ this
    have hcmp := ha p List.mem_cons_self
    have hsz : (tabD pre).length < sizeLine := by
      unfold tabD; rw [List.length_map]; exact Nat.lt_of_lt_of_le (show pre.length < 64 by omega) (by decide)
    rw [List.length_cons, List.range'_succ]
    simp only [List.map_cons, List.zipWith_cons_cons]
    unfold forGo
    simp only [DL.dVar, DL.dC, DL.dBin, DL.dUn, DL.dTest, DL.dIf, DL.dAnd, DL.dOr, DL.dNot, DL.dAndV, DL.dOrV, DL.dNotV, DL.dChain, DL.dNil, DL.dCons, DL.dTup, DL.dLst, DL.dDK, DL.dFz, DL.dCallL, DL.dCallP, DL.dCallN, DL.dCallT, DL.dCallTN, DL.dMake, DL.dProp, DL.dMeth, DL.dFmt, DL.dJs, DL.look, DL.lookL, DL.frz, DL.frzL, DL.startD, DL.startT, DL.sSeq, DL.sIf, DL.sRet, DL.sRetNew, DL.sRetN, DL.sAsg, DL.sNew, DL.sDrop, DL.sNext, DL.sPar, DL.sFor, DL.dSet, DL.endsP, DL.endsN, DL.endsT, DL.endsTN, DL.SV.toD, DL.Cell.toD, DL.isTy_str, DL.ixD_lst, DL.ixD_tup, DL.ixD_str, DL.ixD_dKs, DL.ixD_dKi, DL.inG_dKs, DL.inG_sign, DL.eqG_int, DL.eqG_str, DL.eqG_bl, DL.addD_int, DL.addD_str, DL.addD_lst, DL.addD_tup, DL.intD_int, DL.cmpD_int, DL.cmpD_str, DL.negD, DL.isNG1, DL.isN, DL.isiG, DL.isD, DL.isAnyG, DL.isAny, DL.isInsG, DL.lenG_str, DL.lenG_lst, DL.lenG_tup, DL.lenG_dK, DL.lenG_scr, DL.intG_int, DL.intG_bl, DL.intG_str, DL.strG, DL.absG, DL.two, DL.listG2_dK, DL.listG2_lst, DL.listG2_tup, DL.listG2_scr, DL.tupleG_lst, DL.tupleG_tup, DL.allG, DL.dSlice, DL.dNo, DL.dPart, DL.cutD_str, DL.cutD_lst, DL.cutD_tup, DL.dGNil, DL.dGCons, DL.dTupT, DL.dIter, DL.dRange1, DL.dRange2, DL.atI_0, DL.atI_1, DL.atI_2, DL.atI_3, DL.atI_4, DL.hotAt, DL.putAt, DL.SV.put, DL.dAppend, DL.dExtend, DL.sStore, DL.storeD, DL.sFldD, DL.putFD, DL.dFld, DL.splitG, DL.partitionG, DL.startsG, DL.joinG, DL.dClear, List.getElem?_cons_zero, List.getElem?_cons_succ, List.set_cons_zero, List.set_cons_succ, List.length_cons, List.length_nil, List.map_cons, List.map_nil, List.replicate_succ, List.replicate_zero, List.nil_append, List.cons_append, Nat.reduceAdd, Nat.reduceSub, Bool.bne_false, Bool.bne_true, Bool.not_true, Bool.not_false, decide_eq_true_eq, Bool.false_eq_true, reduceIte, and_true, true_and, if_true, if_false, decide_true, decide_false, line_part hst, hsp]
    refine ⟨rfl, fit (by omega), ?_⟩
    refine ⟨_, ⟨p.2, h.good p hpt, rfl, rfl⟩, ?_⟩
    refine ⟨_, ⟨p.1, hst, rfl, rfl⟩, ?_⟩
    simp only [DL.dVar, DL.dC, DL.dBin, DL.dUn, DL.dTest, DL.dIf, DL.dAnd, DL.dOr, DL.dNot, DL.dAndV, DL.dOrV, DL.dNotV, DL.dChain, DL.dNil, DL.dCons, DL.dTup, DL.dLst, DL.dDK, DL.dFz, DL.dCallL, DL.dCallP, DL.dCallN, DL.dCallT, DL.dCallTN, DL.dMake, DL.dProp, DL.dMeth, DL.dFmt, DL.dJs, DL.look, DL.lookL, DL.frz, DL.frzL, DL.startD, DL.startT, DL.sSeq, DL.sIf, DL.sRet, DL.sRetNew, DL.sRetN, DL.sAsg, DL.sNew, DL.sDrop, DL.sNext, DL.sPar, DL.sFor, DL.dSet, DL.endsP, DL.endsN, DL.endsT, DL.endsTN, DL.SV.toD, DL.Cell.toD, DL.isTy_str, DL.ixD_lst, DL.ixD_tup, DL.ixD_str, DL.ixD_dKs, DL.ixD_dKi, DL.inG_dKs, DL.inG_sign, DL.eqG_int, DL.eqG_str, DL.eqG_bl, DL.addD_int, DL.addD_str, DL.addD_lst, DL.addD_tup, DL.intD_int, DL.cmpD_int, DL.cmpD_str, DL.negD, DL.isNG1, DL.isN, DL.isiG, DL.isD, DL.isAnyG, DL.isAny, DL.isInsG, DL.lenG_str, DL.lenG_lst, DL.lenG_tup, DL.lenG_dK, DL.lenG_scr, DL.intG_int, DL.intG_bl, DL.intG_str, DL.strG, DL.absG, DL.two, DL.listG2_dK, DL.listG2_lst, DL.listG2_tup, DL.listG2_scr, DL.tupleG_lst, DL.tupleG_tup, DL.allG, DL.dSlice, DL.dNo, DL.dPart, DL.cutD_str, DL.cutD_lst, DL.cutD_tup, DL.dGNil, DL.dGCons, DL.dTupT, DL.dIter, DL.dRange1, DL.dRange2, DL.atI_0, DL.atI_1, DL.atI_2, DL.atI_3, DL.atI_4, DL.hotAt, DL.putAt, DL.SV.put, DL.dAppend, DL.dExtend, DL.sStore, DL.storeD, DL.sFldD, DL.putFD, DL.dFld, DL.splitG, DL.partitionG, DL.startsG, DL.joinG, DL.dClear, List.getElem?_cons_zero, List.getElem?_cons_succ, List.set_cons_zero, List.set_cons_succ, List.length_cons, List.length_nil, List.map_cons, List.map_nil, List.replicate_succ, List.replicate_zero, List.nil_append, List.cons_append, Nat.reduceAdd, Nat.reduceSub, Bool.bne_false, Bool.bne_true, Bool.not_true, Bool.not_false, decide_eq_true_eq, Bool.false_eq_true, reduceIte, and_true, true_and, if_true, if_false, decide_true, decide_false, hcmp, frD, hsz]
    have e := tabD_snoc pre p hnp
    unfold frD at e
    rw [e]
    refine ih (pre ++ [p]) (k + 1) p.1 _ _ _ _ _ _ (by simpa using hp) (fun q hq => ?_) K
    exact (List.pairwise_cons.mp hlt2).1 _ (List.mem_map.mpr ⟨q, hq, rfl⟩)
theorem emp_lt {x : Str} (h : tl x ≠ []) : Str.empty.cps.toList < x.cps.toList := by
  show ([] : List Nat) < tl x
  cases q : tl x with
  | nil => exact absurd q h
  | cons a l => exact List.Lex.nil
theorem slice_tail' (a : D) (l : List D) : ((a :: l).drop (HT.sIx (l.length + 1) 0 (some 1))).take (HT.sIx (l.length + 1) (l.length + 1) none - HT.sIx (l.length + 1) 0 (some 1)) = l := slice_tail a l
theorem ofs_emp : Str.ofString "" = Str.empty := rfl
theorem h_read_prices : ∀ ds c, M_read_prices ds c → t_read_prices (endsN c) (startD N_read_prices.length ds) := by
  rintro _ _ ⟨r, w, t, h, rfl, rfl⟩
  have el : (linesS r w t).map D.str = .str (headS r w) :: t.map fun p => .str (lineS p) := by unfold linesS; rw [List.map_cons, List.map_map]; rfl
  generalize hls : (t.map fun p => D.str (lineS p)) = ls at el
  have hll : ls.length = t.length := by rw [← hls, List.length_map]
  simp only [DL.dVar, DL.dC, DL.dBin, DL.dUn, DL.dTest, DL.dIf, DL.dAnd, DL.dOr, DL.dNot, DL.dAndV, DL.dOrV, DL.dNotV, DL.dChain, DL.dNil, DL.dCons, DL.dTup, DL.dLst, DL.dDK, DL.dFz, DL.dCallL, DL.dCallP, DL.dCallN, DL.dCallT, DL.dCallTN, DL.dMake, DL.dProp, DL.dMeth, DL.dFmt, DL.dJs, DL.look, DL.lookL, DL.frz, DL.frzL, DL.startD, DL.startT, DL.sSeq, DL.sIf, DL.sRet, DL.sRetNew, DL.sRetN, DL.sAsg, DL.sNew, DL.sDrop, DL.sNext, DL.sPar, DL.sFor, DL.dSet, DL.endsP, DL.endsN, DL.endsT, DL.endsTN, DL.SV.toD, DL.Cell.toD, DL.isTy_str, DL.ixD_lst, DL.ixD_tup, DL.ixD_str, DL.ixD_dKs, DL.ixD_dKi, DL.inG_dKs, DL.inG_sign, DL.eqG_int, DL.eqG_str, DL.eqG_bl, DL.addD_int, DL.addD_str, DL.addD_lst, DL.addD_tup, DL.intD_int, DL.cmpD_int, DL.cmpD_str, DL.negD, DL.isNG1, DL.isN, DL.isiG, DL.isD, DL.isAnyG, DL.isAny, DL.isInsG, DL.lenG_str, DL.lenG_lst, DL.lenG_tup, DL.lenG_dK, DL.lenG_scr, DL.intG_int, DL.intG_bl, DL.intG_str, DL.strG, DL.absG, DL.two, DL.listG2_dK, DL.listG2_lst, DL.listG2_tup, DL.listG2_scr, DL.tupleG_lst, DL.tupleG_tup, DL.allG, DL.dSlice, DL.dNo, DL.dPart, DL.cutD_str, DL.cutD_lst, DL.cutD_tup, DL.dGNil, DL.dGCons, DL.dTupT, DL.dIter, DL.dRange1, DL.dRange2, DL.atI_0, DL.atI_1, DL.atI_2, DL.atI_3, DL.atI_4, DL.hotAt, DL.putAt, DL.SV.put, DL.dAppend, DL.dExtend, DL.sStore, DL.storeD, DL.sFldD, DL.putFD, DL.dFld, DL.splitG, DL.partitionG, DL.startsG, DL.joinG, DL.dClear, List.getElem?_cons_zero, List.getElem?_cons_succ, List.set_cons_zero, List.set_cons_succ, List.length_cons, List.length_nil, List.map_cons, List.map_nil, List.replicate_succ, List.replicate_zero, List.nil_append, List.cons_append, Nat.reduceAdd, Nat.reduceSub, Bool.bne_false, Bool.bne_true, Bool.not_true, Bool.not_false, decide_eq_true_eq, Bool.false_eq_true, reduceIte, and_true, true_and, if_true, if_false, decide_true, decide_false, t_read_prices]
  refine ⟨_, ⟨r, w, t, h, rfl, rfl⟩, ?_⟩
  simp only [DL.dVar, DL.dC, DL.dBin, DL.dUn, DL.dTest, DL.dIf, DL.dAnd, DL.dOr, DL.dNot, DL.dAndV, DL.dOrV, DL.dNotV, DL.dChain, DL.dNil, DL.dCons, DL.dTup, DL.dLst, DL.dDK, DL.dFz, DL.dCallL, DL.dCallP, DL.dCallN, DL.dCallT, DL.dCallTN, DL.dMake, DL.dProp, DL.dMeth, DL.dFmt, DL.dJs, DL.look, DL.lookL, DL.frz, DL.frzL, DL.startD, DL.startT, DL.sSeq, DL.sIf, DL.sRet, DL.sRetNew, DL.sRetN, DL.sAsg, DL.sNew, DL.sDrop, DL.sNext, DL.sPar, DL.sFor, DL.dSet, DL.endsP, DL.endsN, DL.endsT, DL.endsTN, DL.SV.toD, DL.Cell.toD, DL.isTy_str, DL.ixD_lst, DL.ixD_tup, DL.ixD_str, DL.ixD_dKs, DL.ixD_dKi, DL.inG_dKs, DL.inG_sign, DL.eqG_int, DL.eqG_str, DL.eqG_bl, DL.addD_int, DL.addD_str, DL.addD_lst, DL.addD_tup, DL.intD_int, DL.cmpD_int, DL.cmpD_str, DL.negD, DL.isNG1, DL.isN, DL.isiG, DL.isD, DL.isAnyG, DL.isAny, DL.isInsG, DL.lenG_str, DL.lenG_lst, DL.lenG_tup, DL.lenG_dK, DL.lenG_scr, DL.intG_int, DL.intG_bl, DL.intG_str, DL.strG, DL.absG, DL.two, DL.listG2_dK, DL.listG2_lst, DL.listG2_tup, DL.listG2_scr, DL.tupleG_lst, DL.tupleG_tup, DL.allG, DL.dSlice, DL.dNo, DL.dPart, DL.cutD_str, DL.cutD_lst, DL.cutD_tup, DL.dGNil, DL.dGCons, DL.dTupT, DL.dIter, DL.dRange1, DL.dRange2, DL.atI_0, DL.atI_1, DL.atI_2, DL.atI_3, DL.atI_4, DL.hotAt, DL.putAt, DL.SV.put, DL.dAppend, DL.dExtend, DL.sStore, DL.storeD, DL.sFldD, DL.putFD, DL.dFld, DL.splitG, DL.partitionG, DL.startsG, DL.joinG, DL.dClear, List.getElem?_cons_zero, List.getElem?_cons_succ, List.set_cons_zero, List.set_cons_succ, List.length_cons, List.length_nil, List.map_cons, List.map_nil, List.replicate_succ, List.replicate_zero, List.nil_append, List.cons_append, Nat.reduceAdd, Nat.reduceSub, Bool.bne_false, Bool.bne_true, Bool.not_true, Bool.not_false, decide_eq_true_eq, Bool.false_eq_true, reduceIte, and_true, true_and, if_true, if_false, decide_true, decide_false, el]
  rw [if_neg (by omega)]
  refine ⟨_, ⟨r, w, h.toSz, rfl, rfl⟩, ?_⟩
  simp only [DL.dVar, DL.dC, DL.dBin, DL.dUn, DL.dTest, DL.dIf, DL.dAnd, DL.dOr, DL.dNot, DL.dAndV, DL.dOrV, DL.dNotV, DL.dChain, DL.dNil, DL.dCons, DL.dTup, DL.dLst, DL.dDK, DL.dFz, DL.dCallL, DL.dCallP, DL.dCallN, DL.dCallT, DL.dCallTN, DL.dMake, DL.dProp, DL.dMeth, DL.dFmt, DL.dJs, DL.look, DL.lookL, DL.frz, DL.frzL, DL.startD, DL.startT, DL.sSeq, DL.sIf, DL.sRet, DL.sRetNew, DL.sRetN, DL.sAsg, DL.sNew, DL.sDrop, DL.sNext, DL.sPar, DL.sFor, DL.dSet, DL.endsP, DL.endsN, DL.endsT, DL.endsTN, DL.SV.toD, DL.Cell.toD, DL.isTy_str, DL.ixD_lst, DL.ixD_tup, DL.ixD_str, DL.ixD_dKs, DL.ixD_dKi, DL.inG_dKs, DL.inG_sign, DL.eqG_int, DL.eqG_str, DL.eqG_bl, DL.addD_int, DL.addD_str, DL.addD_lst, DL.addD_tup, DL.intD_int, DL.cmpD_int, DL.cmpD_str, DL.negD, DL.isNG1, DL.isN, DL.isiG, DL.isD, DL.isAnyG, DL.isAny, DL.isInsG, DL.lenG_str, DL.lenG_lst, DL.lenG_tup, DL.lenG_dK, DL.lenG_scr, DL.intG_int, DL.intG_bl, DL.intG_str, DL.strG, DL.absG, DL.two, DL.listG2_dK, DL.listG2_lst, DL.listG2_tup, DL.listG2_scr, DL.tupleG_lst, DL.tupleG_tup, DL.allG, DL.dSlice, DL.dNo, DL.dPart, DL.cutD_str, DL.cutD_lst, DL.cutD_tup, DL.dGNil, DL.dGCons, DL.dTupT, DL.dIter, DL.dRange1, DL.dRange2, DL.atI_0, DL.atI_1, DL.atI_2, DL.atI_3, DL.atI_4, DL.hotAt, DL.putAt, DL.SV.put, DL.dAppend, DL.dExtend, DL.sStore, DL.storeD, DL.sFldD, DL.putFD, DL.dFld, DL.splitG, DL.partitionG, DL.startsG, DL.joinG, DL.dClear, List.getElem?_cons_zero, List.getElem?_cons_succ, List.set_cons_zero, List.set_cons_succ, List.length_cons, List.length_nil, List.map_cons, List.map_nil, List.replicate_succ, List.replicate_zero, List.nil_append, List.cons_append, Nat.reduceAdd, Nat.reduceSub, Bool.bne_false, Bool.bne_true, Bool.not_true, Bool.not_false, decide_eq_true_eq, Bool.false_eq_true, reduceIte, and_true, true_and, if_true, if_false, decide_true, decide_false, dEnum, slice_tail', enumD_eq, ofs_emp]
  rw [hll, ← hls]
  refine read_loop h t [] 0 Str.empty none none none none none none rfl (fun p hp => emp_lt fun z => ?_) fun a v7 v8 v9 v10 v11 v12 => ?_
  · have := (st_len (tab_st h hp)).2.1
    rw [len_tl, z] at this
    simp at this
  · have hne : ¬ (((tabD t).length : Int) = 0) := fun z => by
      have := names_ne h.toSz
      rw [← h.keys] at this
      unfold tabD at z
      rw [List.length_map] at z
      have : t = [] := List.length_eq_zero_iff.mp (by omega)
      subst this
      exact names_ne h.toSz (by rw [← h.keys]; rfl)
    simp only [DL.dVar, DL.dC, DL.dBin, DL.dUn, DL.dTest, DL.dIf, DL.dAnd, DL.dOr, DL.dNot, DL.dAndV, DL.dOrV, DL.dNotV, DL.dChain, DL.dNil, DL.dCons, DL.dTup, DL.dLst, DL.dDK, DL.dFz, DL.dCallL, DL.dCallP, DL.dCallN, DL.dCallT, DL.dCallTN, DL.dMake, DL.dProp, DL.dMeth, DL.dFmt, DL.dJs, DL.look, DL.lookL, DL.frz, DL.frzL, DL.startD, DL.startT, DL.sSeq, DL.sIf, DL.sRet, DL.sRetNew, DL.sRetN, DL.sAsg, DL.sNew, DL.sDrop, DL.sNext, DL.sPar, DL.sFor, DL.dSet, DL.endsP, DL.endsN, DL.endsT, DL.endsTN, DL.SV.toD, DL.Cell.toD, DL.isTy_str, DL.ixD_lst, DL.ixD_tup, DL.ixD_str, DL.ixD_dKs, DL.ixD_dKi, DL.inG_dKs, DL.inG_sign, DL.eqG_int, DL.eqG_str, DL.eqG_bl, DL.addD_int, DL.addD_str, DL.addD_lst, DL.addD_tup, DL.intD_int, DL.cmpD_int, DL.cmpD_str, DL.negD, DL.isNG1, DL.isN, DL.isiG, DL.isD, DL.isAnyG, DL.isAny, DL.isInsG, DL.lenG_str, DL.lenG_lst, DL.lenG_tup, DL.lenG_dK, DL.lenG_scr, DL.intG_int, DL.intG_bl, DL.intG_str, DL.strG, DL.absG, DL.two, DL.listG2_dK, DL.listG2_lst, DL.listG2_tup, DL.listG2_scr, DL.tupleG_lst, DL.tupleG_tup, DL.allG, DL.dSlice, DL.dNo, DL.dPart, DL.cutD_str, DL.cutD_lst, DL.cutD_tup, DL.dGNil, DL.dGCons, DL.dTupT, DL.dIter, DL.dRange1, DL.dRange2, DL.atI_0, DL.atI_1, DL.atI_2, DL.atI_3, DL.atI_4, DL.hotAt, DL.putAt, DL.SV.put, DL.dAppend, DL.dExtend, DL.sStore, DL.storeD, DL.sFldD, DL.putFD, DL.dFld, DL.splitG, DL.partitionG, DL.startsG, DL.joinG, DL.dClear, List.getElem?_cons_zero, List.getElem?_cons_succ, List.set_cons_zero, List.set_cons_succ, List.length_cons, List.length_nil, List.map_cons, List.map_nil, List.replicate_succ, List.replicate_zero, List.nil_append, List.cons_append, Nat.reduceAdd, Nat.reduceSub, Bool.bne_false, Bool.bne_true, Bool.not_true, Bool.not_false, decide_eq_true_eq, Bool.false_eq_true, reduceIte, and_true, true_and, if_true, if_false, decide_true, decide_false, hne]
    exact ⟨_, ⟨r, w, t, h, rfl, rfl, rfl, rfl⟩, rfl⟩
theorem scal_eq {a : D} (h : Scal a) : ∀ k : D → Prop, eqG false a a k = k (.bl true) := by
  intro k
  rcases h with ⟨i, rfl⟩ | ⟨x, rfl⟩
  · simp only [DL.dVar, DL.dC, DL.dBin, DL.dUn, DL.dTest, DL.dIf, DL.dAnd, DL.dOr, DL.dNot, DL.dAndV, DL.dOrV, DL.dNotV, DL.dChain, DL.dNil, DL.dCons, DL.dTup, DL.dLst, DL.dDK, DL.dFz, DL.dCallL, DL.dCallP, DL.dCallN, DL.dCallT, DL.dCallTN, DL.dMake, DL.dProp, DL.dMeth, DL.dFmt, DL.dJs, DL.look, DL.lookL, DL.frz, DL.frzL, DL.startD, DL.startT, DL.sSeq, DL.sIf, DL.sRet, DL.sRetNew, DL.sRetN, DL.sAsg, DL.sNew, DL.sDrop, DL.sNext, DL.sPar, DL.sFor, DL.dSet, DL.endsP, DL.endsN, DL.endsT, DL.endsTN, DL.SV.toD, DL.Cell.toD, DL.isTy_str, DL.ixD_lst, DL.ixD_tup, DL.ixD_str, DL.ixD_dKs, DL.ixD_dKi, DL.inG_dKs, DL.inG_sign, DL.eqG_int, DL.eqG_str, DL.eqG_bl, DL.addD_int, DL.addD_str, DL.addD_lst, DL.addD_tup, DL.intD_int, DL.cmpD_int, DL.cmpD_str, DL.negD, DL.isNG1, DL.isN, DL.isiG, DL.isD, DL.isAnyG, DL.isAny, DL.isInsG, DL.lenG_str, DL.lenG_lst, DL.lenG_tup, DL.lenG_dK, DL.lenG_scr, DL.intG_int, DL.intG_bl, DL.intG_str, DL.strG, DL.absG, DL.two, DL.listG2_dK, DL.listG2_lst, DL.listG2_tup, DL.listG2_scr, DL.tupleG_lst, DL.tupleG_tup, DL.allG, DL.dSlice, DL.dNo, DL.dPart, DL.cutD_str, DL.cutD_lst, DL.cutD_tup, DL.dGNil, DL.dGCons, DL.dTupT, DL.dIter, DL.dRange1, DL.dRange2, DL.atI_0, DL.atI_1, DL.atI_2, DL.atI_3, DL.atI_4, DL.hotAt, DL.putAt, DL.SV.put, DL.dAppend, DL.dExtend, DL.sStore, DL.storeD, DL.sFldD, DL.putFD, DL.dFld, DL.splitG, DL.partitionG, DL.startsG, DL.joinG, DL.dClear, List.getElem?_cons_zero, List.getElem?_cons_succ, List.set_cons_zero, List.set_cons_succ, List.length_cons, List.length_nil, List.map_cons, List.map_nil, List.replicate_succ, List.replicate_zero, List.nil_append, List.cons_append, Nat.reduceAdd, Nat.reduceSub, Bool.bne_false, Bool.bne_true, Bool.not_true, Bool.not_false, decide_eq_true_eq, Bool.false_eq_true, reduceIte, and_true, true_and, if_true, if_false, decide_true, decide_false]
  · simp only [DL.dVar, DL.dC, DL.dBin, DL.dUn, DL.dTest, DL.dIf, DL.dAnd, DL.dOr, DL.dNot, DL.dAndV, DL.dOrV, DL.dNotV, DL.dChain, DL.dNil, DL.dCons, DL.dTup, DL.dLst, DL.dDK, DL.dFz, DL.dCallL, DL.dCallP, DL.dCallN, DL.dCallT, DL.dCallTN, DL.dMake, DL.dProp, DL.dMeth, DL.dFmt, DL.dJs, DL.look, DL.lookL, DL.frz, DL.frzL, DL.startD, DL.startT, DL.sSeq, DL.sIf, DL.sRet, DL.sRetNew, DL.sRetN, DL.sAsg, DL.sNew, DL.sDrop, DL.sNext, DL.sPar, DL.sFor, DL.dSet, DL.endsP, DL.endsN, DL.endsT, DL.endsTN, DL.SV.toD, DL.Cell.toD, DL.isTy_str, DL.ixD_lst, DL.ixD_tup, DL.ixD_str, DL.ixD_dKs, DL.ixD_dKi, DL.inG_dKs, DL.inG_sign, DL.eqG_int, DL.eqG_str, DL.eqG_bl, DL.addD_int, DL.addD_str, DL.addD_lst, DL.addD_tup, DL.intD_int, DL.cmpD_int, DL.cmpD_str, DL.negD, DL.isNG1, DL.isN, DL.isiG, DL.isD, DL.isAnyG, DL.isAny, DL.isInsG, DL.lenG_str, DL.lenG_lst, DL.lenG_tup, DL.lenG_dK, DL.lenG_scr, DL.intG_int, DL.intG_bl, DL.intG_str, DL.strG, DL.absG, DL.two, DL.listG2_dK, DL.listG2_lst, DL.listG2_tup, DL.listG2_scr, DL.tupleG_lst, DL.tupleG_tup, DL.allG, DL.dSlice, DL.dNo, DL.dPart, DL.cutD_str, DL.cutD_lst, DL.cutD_tup, DL.dGNil, DL.dGCons, DL.dTupT, DL.dIter, DL.dRange1, DL.dRange2, DL.atI_0, DL.atI_1, DL.atI_2, DL.atI_3, DL.atI_4, DL.hotAt, DL.putAt, DL.SV.put, DL.dAppend, DL.dExtend, DL.sStore, DL.storeD, DL.sFldD, DL.putFD, DL.dFld, DL.splitG, DL.partitionG, DL.startsG, DL.joinG, DL.dClear, List.getElem?_cons_zero, List.getElem?_cons_succ, List.set_cons_zero, List.set_cons_succ, List.length_cons, List.length_nil, List.map_cons, List.map_nil, List.replicate_succ, List.replicate_zero, List.nil_append, List.cons_append, Nat.reduceAdd, Nat.reduceSub, Bool.bne_false, Bool.bne_true, Bool.not_true, Bool.not_false, decide_eq_true_eq, Bool.false_eq_true, reduceIte, and_true, true_and, if_true, if_false, decide_true, decide_false]
theorem h__law_is0 : ∀ ds r, M__law_is0 ds r → t__law_is (fun _ _ => False) (endsP r) (startD N__law_is.length ds) := by
  rintro _ _ ⟨a, ha, rfl, rfl⟩
  rcases ha with ⟨i, rfl⟩ | ⟨x, rfl⟩
  · simp only [DL.dVar, DL.dC, DL.dBin, DL.dUn, DL.dTest, DL.dIf, DL.dAnd, DL.dOr, DL.dNot, DL.dAndV, DL.dOrV, DL.dNotV, DL.dChain, DL.dNil, DL.dCons, DL.dTup, DL.dLst, DL.dDK, DL.dFz, DL.dCallL, DL.dCallP, DL.dCallN, DL.dCallT, DL.dCallTN, DL.dMake, DL.dProp, DL.dMeth, DL.dFmt, DL.dJs, DL.look, DL.lookL, DL.frz, DL.frzL, DL.startD, DL.startT, DL.sSeq, DL.sIf, DL.sRet, DL.sRetNew, DL.sRetN, DL.sAsg, DL.sNew, DL.sDrop, DL.sNext, DL.sPar, DL.sFor, DL.dSet, DL.endsP, DL.endsN, DL.endsT, DL.endsTN, DL.SV.toD, DL.Cell.toD, DL.isTy_str, DL.ixD_lst, DL.ixD_tup, DL.ixD_str, DL.ixD_dKs, DL.ixD_dKi, DL.inG_dKs, DL.inG_sign, DL.eqG_int, DL.eqG_str, DL.eqG_bl, DL.addD_int, DL.addD_str, DL.addD_lst, DL.addD_tup, DL.intD_int, DL.cmpD_int, DL.cmpD_str, DL.negD, DL.isNG1, DL.isN, DL.isiG, DL.isD, DL.isAnyG, DL.isAny, DL.isInsG, DL.lenG_str, DL.lenG_lst, DL.lenG_tup, DL.lenG_dK, DL.lenG_scr, DL.intG_int, DL.intG_bl, DL.intG_str, DL.strG, DL.absG, DL.two, DL.listG2_dK, DL.listG2_lst, DL.listG2_tup, DL.listG2_scr, DL.tupleG_lst, DL.tupleG_tup, DL.allG, DL.dSlice, DL.dNo, DL.dPart, DL.cutD_str, DL.cutD_lst, DL.cutD_tup, DL.dGNil, DL.dGCons, DL.dTupT, DL.dIter, DL.dRange1, DL.dRange2, DL.atI_0, DL.atI_1, DL.atI_2, DL.atI_3, DL.atI_4, DL.hotAt, DL.putAt, DL.SV.put, DL.dAppend, DL.dExtend, DL.sStore, DL.storeD, DL.sFldD, DL.putFD, DL.dFld, DL.splitG, DL.partitionG, DL.startsG, DL.joinG, DL.dClear, List.getElem?_cons_zero, List.getElem?_cons_succ, List.set_cons_zero, List.set_cons_succ, List.length_cons, List.length_nil, List.map_cons, List.map_nil, List.replicate_succ, List.replicate_zero, List.nil_append, List.cons_append, Nat.reduceAdd, Nat.reduceSub, Bool.bne_false, Bool.bne_true, Bool.not_true, Bool.not_false, decide_eq_true_eq, Bool.false_eq_true, reduceIte, and_true, true_and, if_true, if_false, decide_true, decide_false, t__law_is, Option.bind_some]
  · simp only [DL.dVar, DL.dC, DL.dBin, DL.dUn, DL.dTest, DL.dIf, DL.dAnd, DL.dOr, DL.dNot, DL.dAndV, DL.dOrV, DL.dNotV, DL.dChain, DL.dNil, DL.dCons, DL.dTup, DL.dLst, DL.dDK, DL.dFz, DL.dCallL, DL.dCallP, DL.dCallN, DL.dCallT, DL.dCallTN, DL.dMake, DL.dProp, DL.dMeth, DL.dFmt, DL.dJs, DL.look, DL.lookL, DL.frz, DL.frzL, DL.startD, DL.startT, DL.sSeq, DL.sIf, DL.sRet, DL.sRetNew, DL.sRetN, DL.sAsg, DL.sNew, DL.sDrop, DL.sNext, DL.sPar, DL.sFor, DL.dSet, DL.endsP, DL.endsN, DL.endsT, DL.endsTN, DL.SV.toD, DL.Cell.toD, DL.isTy_str, DL.ixD_lst, DL.ixD_tup, DL.ixD_str, DL.ixD_dKs, DL.ixD_dKi, DL.inG_dKs, DL.inG_sign, DL.eqG_int, DL.eqG_str, DL.eqG_bl, DL.addD_int, DL.addD_str, DL.addD_lst, DL.addD_tup, DL.intD_int, DL.cmpD_int, DL.cmpD_str, DL.negD, DL.isNG1, DL.isN, DL.isiG, DL.isD, DL.isAnyG, DL.isAny, DL.isInsG, DL.lenG_str, DL.lenG_lst, DL.lenG_tup, DL.lenG_dK, DL.lenG_scr, DL.intG_int, DL.intG_bl, DL.intG_str, DL.strG, DL.absG, DL.two, DL.listG2_dK, DL.listG2_lst, DL.listG2_tup, DL.listG2_scr, DL.tupleG_lst, DL.tupleG_tup, DL.allG, DL.dSlice, DL.dNo, DL.dPart, DL.cutD_str, DL.cutD_lst, DL.cutD_tup, DL.dGNil, DL.dGCons, DL.dTupT, DL.dIter, DL.dRange1, DL.dRange2, DL.atI_0, DL.atI_1, DL.atI_2, DL.atI_3, DL.atI_4, DL.hotAt, DL.putAt, DL.SV.put, DL.dAppend, DL.dExtend, DL.sStore, DL.storeD, DL.sFldD, DL.putFD, DL.dFld, DL.splitG, DL.partitionG, DL.startsG, DL.joinG, DL.dClear, List.getElem?_cons_zero, List.getElem?_cons_succ, List.set_cons_zero, List.set_cons_succ, List.length_cons, List.length_nil, List.map_cons, List.map_nil, List.replicate_succ, List.replicate_zero, List.nil_append, List.cons_append, Nat.reduceAdd, Nat.reduceSub, Bool.bne_false, Bool.bne_true, Bool.not_true, Bool.not_false, decide_eq_true_eq, Bool.false_eq_true, reduceIte, and_true, true_and, if_true, if_false, decide_true, decide_false, t__law_is, Option.bind_some]
theorem h__law_is : ∀ ds r, M__law_is ds r → t__law_is M__law_is0 (endsP r) (startD N__law_is.length ds) := by
  rintro _ _ ⟨a, b, ha, hb, h, rfl⟩
  rcases h with rfl | rfl
  · rcases ha with ⟨i, rfl⟩ | ⟨x, rfl⟩
    · simp only [DL.dVar, DL.dC, DL.dBin, DL.dUn, DL.dTest, DL.dIf, DL.dAnd, DL.dOr, DL.dNot, DL.dAndV, DL.dOrV, DL.dNotV, DL.dChain, DL.dNil, DL.dCons, DL.dTup, DL.dLst, DL.dDK, DL.dFz, DL.dCallL, DL.dCallP, DL.dCallN, DL.dCallT, DL.dCallTN, DL.dMake, DL.dProp, DL.dMeth, DL.dFmt, DL.dJs, DL.look, DL.lookL, DL.frz, DL.frzL, DL.startD, DL.startT, DL.sSeq, DL.sIf, DL.sRet, DL.sRetNew, DL.sRetN, DL.sAsg, DL.sNew, DL.sDrop, DL.sNext, DL.sPar, DL.sFor, DL.dSet, DL.endsP, DL.endsN, DL.endsT, DL.endsTN, DL.SV.toD, DL.Cell.toD, DL.isTy_str, DL.ixD_lst, DL.ixD_tup, DL.ixD_str, DL.ixD_dKs, DL.ixD_dKi, DL.inG_dKs, DL.inG_sign, DL.eqG_int, DL.eqG_str, DL.eqG_bl, DL.addD_int, DL.addD_str, DL.addD_lst, DL.addD_tup, DL.intD_int, DL.cmpD_int, DL.cmpD_str, DL.negD, DL.isNG1, DL.isN, DL.isiG, DL.isD, DL.isAnyG, DL.isAny, DL.isInsG, DL.lenG_str, DL.lenG_lst, DL.lenG_tup, DL.lenG_dK, DL.lenG_scr, DL.intG_int, DL.intG_bl, DL.intG_str, DL.strG, DL.absG, DL.two, DL.listG2_dK, DL.listG2_lst, DL.listG2_tup, DL.listG2_scr, DL.tupleG_lst, DL.tupleG_tup, DL.allG, DL.dSlice, DL.dNo, DL.dPart, DL.cutD_str, DL.cutD_lst, DL.cutD_tup, DL.dGNil, DL.dGCons, DL.dTupT, DL.dIter, DL.dRange1, DL.dRange2, DL.atI_0, DL.atI_1, DL.atI_2, DL.atI_3, DL.atI_4, DL.hotAt, DL.putAt, DL.SV.put, DL.dAppend, DL.dExtend, DL.sStore, DL.storeD, DL.sFldD, DL.putFD, DL.dFld, DL.splitG, DL.partitionG, DL.startsG, DL.joinG, DL.dClear, List.getElem?_cons_zero, List.getElem?_cons_succ, List.set_cons_zero, List.set_cons_succ, List.length_cons, List.length_nil, List.map_cons, List.map_nil, List.replicate_succ, List.replicate_zero, List.nil_append, List.cons_append, Nat.reduceAdd, Nat.reduceSub, Bool.bne_false, Bool.bne_true, Bool.not_true, Bool.not_false, decide_eq_true_eq, Bool.false_eq_true, reduceIte, and_true, true_and, if_true, if_false, decide_true, decide_false, t__law_is, Option.bind_some]
    · simp only [DL.dVar, DL.dC, DL.dBin, DL.dUn, DL.dTest, DL.dIf, DL.dAnd, DL.dOr, DL.dNot, DL.dAndV, DL.dOrV, DL.dNotV, DL.dChain, DL.dNil, DL.dCons, DL.dTup, DL.dLst, DL.dDK, DL.dFz, DL.dCallL, DL.dCallP, DL.dCallN, DL.dCallT, DL.dCallTN, DL.dMake, DL.dProp, DL.dMeth, DL.dFmt, DL.dJs, DL.look, DL.lookL, DL.frz, DL.frzL, DL.startD, DL.startT, DL.sSeq, DL.sIf, DL.sRet, DL.sRetNew, DL.sRetN, DL.sAsg, DL.sNew, DL.sDrop, DL.sNext, DL.sPar, DL.sFor, DL.dSet, DL.endsP, DL.endsN, DL.endsT, DL.endsTN, DL.SV.toD, DL.Cell.toD, DL.isTy_str, DL.ixD_lst, DL.ixD_tup, DL.ixD_str, DL.ixD_dKs, DL.ixD_dKi, DL.inG_dKs, DL.inG_sign, DL.eqG_int, DL.eqG_str, DL.eqG_bl, DL.addD_int, DL.addD_str, DL.addD_lst, DL.addD_tup, DL.intD_int, DL.cmpD_int, DL.cmpD_str, DL.negD, DL.isNG1, DL.isN, DL.isiG, DL.isD, DL.isAnyG, DL.isAny, DL.isInsG, DL.lenG_str, DL.lenG_lst, DL.lenG_tup, DL.lenG_dK, DL.lenG_scr, DL.intG_int, DL.intG_bl, DL.intG_str, DL.strG, DL.absG, DL.two, DL.listG2_dK, DL.listG2_lst, DL.listG2_tup, DL.listG2_scr, DL.tupleG_lst, DL.tupleG_tup, DL.allG, DL.dSlice, DL.dNo, DL.dPart, DL.cutD_str, DL.cutD_lst, DL.cutD_tup, DL.dGNil, DL.dGCons, DL.dTupT, DL.dIter, DL.dRange1, DL.dRange2, DL.atI_0, DL.atI_1, DL.atI_2, DL.atI_3, DL.atI_4, DL.hotAt, DL.putAt, DL.SV.put, DL.dAppend, DL.dExtend, DL.sStore, DL.storeD, DL.sFldD, DL.putFD, DL.dFld, DL.splitG, DL.partitionG, DL.startsG, DL.joinG, DL.dClear, List.getElem?_cons_zero, List.getElem?_cons_succ, List.set_cons_zero, List.set_cons_succ, List.length_cons, List.length_nil, List.map_cons, List.map_nil, List.replicate_succ, List.replicate_zero, List.nil_append, List.cons_append, Nat.reduceAdd, Nat.reduceSub, Bool.bne_false, Bool.bne_true, Bool.not_true, Bool.not_false, decide_eq_true_eq, Bool.false_eq_true, reduceIte, and_true, true_and, if_true, if_false, decide_true, decide_false, t__law_is, Option.bind_some]
  · simp only [DL.dVar, DL.dC, DL.dBin, DL.dUn, DL.dTest, DL.dIf, DL.dAnd, DL.dOr, DL.dNot, DL.dAndV, DL.dOrV, DL.dNotV, DL.dChain, DL.dNil, DL.dCons, DL.dTup, DL.dLst, DL.dDK, DL.dFz, DL.dCallL, DL.dCallP, DL.dCallN, DL.dCallT, DL.dCallTN, DL.dMake, DL.dProp, DL.dMeth, DL.dFmt, DL.dJs, DL.look, DL.lookL, DL.frz, DL.frzL, DL.startD, DL.startT, DL.sSeq, DL.sIf, DL.sRet, DL.sRetNew, DL.sRetN, DL.sAsg, DL.sNew, DL.sDrop, DL.sNext, DL.sPar, DL.sFor, DL.dSet, DL.endsP, DL.endsN, DL.endsT, DL.endsTN, DL.SV.toD, DL.Cell.toD, DL.isTy_str, DL.ixD_lst, DL.ixD_tup, DL.ixD_str, DL.ixD_dKs, DL.ixD_dKi, DL.inG_dKs, DL.inG_sign, DL.eqG_int, DL.eqG_str, DL.eqG_bl, DL.addD_int, DL.addD_str, DL.addD_lst, DL.addD_tup, DL.intD_int, DL.cmpD_int, DL.cmpD_str, DL.negD, DL.isNG1, DL.isN, DL.isiG, DL.isD, DL.isAnyG, DL.isAny, DL.isInsG, DL.lenG_str, DL.lenG_lst, DL.lenG_tup, DL.lenG_dK, DL.lenG_scr, DL.intG_int, DL.intG_bl, DL.intG_str, DL.strG, DL.absG, DL.two, DL.listG2_dK, DL.listG2_lst, DL.listG2_tup, DL.listG2_scr, DL.tupleG_lst, DL.tupleG_tup, DL.allG, DL.dSlice, DL.dNo, DL.dPart, DL.cutD_str, DL.cutD_lst, DL.cutD_tup, DL.dGNil, DL.dGCons, DL.dTupT, DL.dIter, DL.dRange1, DL.dRange2, DL.atI_0, DL.atI_1, DL.atI_2, DL.atI_3, DL.atI_4, DL.hotAt, DL.putAt, DL.SV.put, DL.dAppend, DL.dExtend, DL.sStore, DL.storeD, DL.sFldD, DL.putFD, DL.dFld, DL.splitG, DL.partitionG, DL.startsG, DL.joinG, DL.dClear, List.getElem?_cons_zero, List.getElem?_cons_succ, List.set_cons_zero, List.set_cons_succ, List.length_cons, List.length_nil, List.map_cons, List.map_nil, List.replicate_succ, List.replicate_zero, List.nil_append, List.cons_append, Nat.reduceAdd, Nat.reduceSub, Bool.bne_false, Bool.bne_true, Bool.not_true, Bool.not_false, decide_eq_true_eq, Bool.false_eq_true, reduceIte, and_true, true_and, if_true, if_false, decide_true, decide_false, t__law_is, Option.bind_some, dLc, rangeD]
    refine ⟨by decide, ?_⟩
    refine lcGo_fm (f := fun _ => none) rfl _ _ (fun d hd Q2 Q3 h3 => ?_) (by simp; decide) ?_
    · obtain ⟨i, hi, e⟩ := List.mem_map.mp hd
      subst e
      have hi := List.mem_range.mp hi
      have hi : i < 2 := hi
      obtain z | z : i = 0 ∨ i = 1 := by omega
      · subst z
        have e0 : atI [a, b] (0 + ((0 : Nat) : Int)) = some a := atI_0 a [b]
        simp only [DL.dVar, DL.dC, DL.dBin, DL.dUn, DL.dTest, DL.dIf, DL.dAnd, DL.dOr, DL.dNot, DL.dAndV, DL.dOrV, DL.dNotV, DL.dChain, DL.dNil, DL.dCons, DL.dTup, DL.dLst, DL.dDK, DL.dFz, DL.dCallL, DL.dCallP, DL.dCallN, DL.dCallT, DL.dCallTN, DL.dMake, DL.dProp, DL.dMeth, DL.dFmt, DL.dJs, DL.look, DL.lookL, DL.frz, DL.frzL, DL.startD, DL.startT, DL.sSeq, DL.sIf, DL.sRet, DL.sRetNew, DL.sRetN, DL.sAsg, DL.sNew, DL.sDrop, DL.sNext, DL.sPar, DL.sFor, DL.dSet, DL.endsP, DL.endsN, DL.endsT, DL.endsTN, DL.SV.toD, DL.Cell.toD, DL.isTy_str, DL.ixD_lst, DL.ixD_tup, DL.ixD_str, DL.ixD_dKs, DL.ixD_dKi, DL.inG_dKs, DL.inG_sign, DL.eqG_int, DL.eqG_str, DL.eqG_bl, DL.addD_int, DL.addD_str, DL.addD_lst, DL.addD_tup, DL.intD_int, DL.cmpD_int, DL.cmpD_str, DL.negD, DL.isNG1, DL.isN, DL.isiG, DL.isD, DL.isAnyG, DL.isAny, DL.isInsG, DL.lenG_str, DL.lenG_lst, DL.lenG_tup, DL.lenG_dK, DL.lenG_scr, DL.intG_int, DL.intG_bl, DL.intG_str, DL.strG, DL.absG, DL.two, DL.listG2_dK, DL.listG2_lst, DL.listG2_tup, DL.listG2_scr, DL.tupleG_lst, DL.tupleG_tup, DL.allG, DL.dSlice, DL.dNo, DL.dPart, DL.cutD_str, DL.cutD_lst, DL.cutD_tup, DL.dGNil, DL.dGCons, DL.dTupT, DL.dIter, DL.dRange1, DL.dRange2, DL.atI_0, DL.atI_1, DL.atI_2, DL.atI_3, DL.atI_4, DL.hotAt, DL.putAt, DL.SV.put, DL.dAppend, DL.dExtend, DL.sStore, DL.storeD, DL.sFldD, DL.putFD, DL.dFld, DL.splitG, DL.partitionG, DL.startsG, DL.joinG, DL.dClear, List.getElem?_cons_zero, List.getElem?_cons_succ, List.set_cons_zero, List.set_cons_succ, List.length_cons, List.length_nil, List.map_cons, List.map_nil, List.replicate_succ, List.replicate_zero, List.nil_append, List.cons_append, Nat.reduceAdd, Nat.reduceSub, Bool.bne_false, Bool.bne_true, Bool.not_true, Bool.not_false, decide_eq_true_eq, Bool.false_eq_true, reduceIte, and_true, true_and, if_true, if_false, decide_true, decide_false, wipeE, back, e0]
        refine ⟨_, ⟨a, ha, rfl, rfl⟩, ?_⟩
        simp only [DL.dVar, DL.dC, DL.dBin, DL.dUn, DL.dTest, DL.dIf, DL.dAnd, DL.dOr, DL.dNot, DL.dAndV, DL.dOrV, DL.dNotV, DL.dChain, DL.dNil, DL.dCons, DL.dTup, DL.dLst, DL.dDK, DL.dFz, DL.dCallL, DL.dCallP, DL.dCallN, DL.dCallT, DL.dCallTN, DL.dMake, DL.dProp, DL.dMeth, DL.dFmt, DL.dJs, DL.look, DL.lookL, DL.frz, DL.frzL, DL.startD, DL.startT, DL.sSeq, DL.sIf, DL.sRet, DL.sRetNew, DL.sRetN, DL.sAsg, DL.sNew, DL.sDrop, DL.sNext, DL.sPar, DL.sFor, DL.dSet, DL.endsP, DL.endsN, DL.endsT, DL.endsTN, DL.SV.toD, DL.Cell.toD, DL.isTy_str, DL.ixD_lst, DL.ixD_tup, DL.ixD_str, DL.ixD_dKs, DL.ixD_dKi, DL.inG_dKs, DL.inG_sign, DL.eqG_int, DL.eqG_str, DL.eqG_bl, DL.addD_int, DL.addD_str, DL.addD_lst, DL.addD_tup, DL.intD_int, DL.cmpD_int, DL.cmpD_str, DL.negD, DL.isNG1, DL.isN, DL.isiG, DL.isD, DL.isAnyG, DL.isAny, DL.isInsG, DL.lenG_str, DL.lenG_lst, DL.lenG_tup, DL.lenG_dK, DL.lenG_scr, DL.intG_int, DL.intG_bl, DL.intG_str, DL.strG, DL.absG, DL.two, DL.listG2_dK, DL.listG2_lst, DL.listG2_tup, DL.listG2_scr, DL.tupleG_lst, DL.tupleG_tup, DL.allG, DL.dSlice, DL.dNo, DL.dPart, DL.cutD_str, DL.cutD_lst, DL.cutD_tup, DL.dGNil, DL.dGCons, DL.dTupT, DL.dIter, DL.dRange1, DL.dRange2, DL.atI_0, DL.atI_1, DL.atI_2, DL.atI_3, DL.atI_4, DL.hotAt, DL.putAt, DL.SV.put, DL.dAppend, DL.dExtend, DL.sStore, DL.storeD, DL.sFldD, DL.putFD, DL.dFld, DL.splitG, DL.partitionG, DL.startsG, DL.joinG, DL.dClear, List.getElem?_cons_zero, List.getElem?_cons_succ, List.set_cons_zero, List.set_cons_succ, List.length_cons, List.length_nil, List.map_cons, List.map_nil, List.replicate_succ, List.replicate_zero, List.nil_append, List.cons_append, Nat.reduceAdd, Nat.reduceSub, Bool.bne_false, Bool.bne_true, Bool.not_true, Bool.not_false, decide_eq_true_eq, Bool.false_eq_true, reduceIte, and_true, true_and, if_true, if_false, decide_true, decide_false, back]
        exact h3
      · subst z
        have e0 : atI [a, b] (0 + ((1 : Nat) : Int)) = some b := atI_1 a b []
        simp only [DL.dVar, DL.dC, DL.dBin, DL.dUn, DL.dTest, DL.dIf, DL.dAnd, DL.dOr, DL.dNot, DL.dAndV, DL.dOrV, DL.dNotV, DL.dChain, DL.dNil, DL.dCons, DL.dTup, DL.dLst, DL.dDK, DL.dFz, DL.dCallL, DL.dCallP, DL.dCallN, DL.dCallT, DL.dCallTN, DL.dMake, DL.dProp, DL.dMeth, DL.dFmt, DL.dJs, DL.look, DL.lookL, DL.frz, DL.frzL, DL.startD, DL.startT, DL.sSeq, DL.sIf, DL.sRet, DL.sRetNew, DL.sRetN, DL.sAsg, DL.sNew, DL.sDrop, DL.sNext, DL.sPar, DL.sFor, DL.dSet, DL.endsP, DL.endsN, DL.endsT, DL.endsTN, DL.SV.toD, DL.Cell.toD, DL.isTy_str, DL.ixD_lst, DL.ixD_tup, DL.ixD_str, DL.ixD_dKs, DL.ixD_dKi, DL.inG_dKs, DL.inG_sign, DL.eqG_int, DL.eqG_str, DL.eqG_bl, DL.addD_int, DL.addD_str, DL.addD_lst, DL.addD_tup, DL.intD_int, DL.cmpD_int, DL.cmpD_str, DL.negD, DL.isNG1, DL.isN, DL.isiG, DL.isD, DL.isAnyG, DL.isAny, DL.isInsG, DL.lenG_str, DL.lenG_lst, DL.lenG_tup, DL.lenG_dK, DL.lenG_scr, DL.intG_int, DL.intG_bl, DL.intG_str, DL.strG, DL.absG, DL.two, DL.listG2_dK, DL.listG2_lst, DL.listG2_tup, DL.listG2_scr, DL.tupleG_lst, DL.tupleG_tup, DL.allG, DL.dSlice, DL.dNo, DL.dPart, DL.cutD_str, DL.cutD_lst, DL.cutD_tup, DL.dGNil, DL.dGCons, DL.dTupT, DL.dIter, DL.dRange1, DL.dRange2, DL.atI_0, DL.atI_1, DL.atI_2, DL.atI_3, DL.atI_4, DL.hotAt, DL.putAt, DL.SV.put, DL.dAppend, DL.dExtend, DL.sStore, DL.storeD, DL.sFldD, DL.putFD, DL.dFld, DL.splitG, DL.partitionG, DL.startsG, DL.joinG, DL.dClear, List.getElem?_cons_zero, List.getElem?_cons_succ, List.set_cons_zero, List.set_cons_succ, List.length_cons, List.length_nil, List.map_cons, List.map_nil, List.replicate_succ, List.replicate_zero, List.nil_append, List.cons_append, Nat.reduceAdd, Nat.reduceSub, Bool.bne_false, Bool.bne_true, Bool.not_true, Bool.not_false, decide_eq_true_eq, Bool.false_eq_true, reduceIte, and_true, true_and, if_true, if_false, decide_true, decide_false, wipeE, back, e0]
        refine ⟨_, ⟨b, hb, rfl, rfl⟩, ?_⟩
        simp only [DL.dVar, DL.dC, DL.dBin, DL.dUn, DL.dTest, DL.dIf, DL.dAnd, DL.dOr, DL.dNot, DL.dAndV, DL.dOrV, DL.dNotV, DL.dChain, DL.dNil, DL.dCons, DL.dTup, DL.dLst, DL.dDK, DL.dFz, DL.dCallL, DL.dCallP, DL.dCallN, DL.dCallT, DL.dCallTN, DL.dMake, DL.dProp, DL.dMeth, DL.dFmt, DL.dJs, DL.look, DL.lookL, DL.frz, DL.frzL, DL.startD, DL.startT, DL.sSeq, DL.sIf, DL.sRet, DL.sRetNew, DL.sRetN, DL.sAsg, DL.sNew, DL.sDrop, DL.sNext, DL.sPar, DL.sFor, DL.dSet, DL.endsP, DL.endsN, DL.endsT, DL.endsTN, DL.SV.toD, DL.Cell.toD, DL.isTy_str, DL.ixD_lst, DL.ixD_tup, DL.ixD_str, DL.ixD_dKs, DL.ixD_dKi, DL.inG_dKs, DL.inG_sign, DL.eqG_int, DL.eqG_str, DL.eqG_bl, DL.addD_int, DL.addD_str, DL.addD_lst, DL.addD_tup, DL.intD_int, DL.cmpD_int, DL.cmpD_str, DL.negD, DL.isNG1, DL.isN, DL.isiG, DL.isD, DL.isAnyG, DL.isAny, DL.isInsG, DL.lenG_str, DL.lenG_lst, DL.lenG_tup, DL.lenG_dK, DL.lenG_scr, DL.intG_int, DL.intG_bl, DL.intG_str, DL.strG, DL.absG, DL.two, DL.listG2_dK, DL.listG2_lst, DL.listG2_tup, DL.listG2_scr, DL.tupleG_lst, DL.tupleG_tup, DL.allG, DL.dSlice, DL.dNo, DL.dPart, DL.cutD_str, DL.cutD_lst, DL.cutD_tup, DL.dGNil, DL.dGCons, DL.dTupT, DL.dIter, DL.dRange1, DL.dRange2, DL.atI_0, DL.atI_1, DL.atI_2, DL.atI_3, DL.atI_4, DL.hotAt, DL.putAt, DL.SV.put, DL.dAppend, DL.dExtend, DL.sStore, DL.storeD, DL.sFldD, DL.putFD, DL.dFld, DL.splitG, DL.partitionG, DL.startsG, DL.joinG, DL.dClear, List.getElem?_cons_zero, List.getElem?_cons_succ, List.set_cons_zero, List.set_cons_succ, List.length_cons, List.length_nil, List.map_cons, List.map_nil, List.replicate_succ, List.replicate_zero, List.nil_append, List.cons_append, Nat.reduceAdd, Nat.reduceSub, Bool.bne_false, Bool.bne_true, Bool.not_true, Bool.not_false, decide_eq_true_eq, Bool.false_eq_true, reduceIte, and_true, true_and, if_true, if_false, decide_true, decide_false, back]
        exact h3
    · simp
theorem h__law_tape : ∀ ds c, M__law_tape ds c → t__law_tape (endsN c) (startD N__law_tape.length ds) := by
  rintro _ _ ⟨ns, rfl, rfl⟩
  simp only [DL.dVar, DL.dC, DL.dBin, DL.dUn, DL.dTest, DL.dIf, DL.dAnd, DL.dOr, DL.dNot, DL.dAndV, DL.dOrV, DL.dNotV, DL.dChain, DL.dNil, DL.dCons, DL.dTup, DL.dLst, DL.dDK, DL.dFz, DL.dCallL, DL.dCallP, DL.dCallN, DL.dCallT, DL.dCallTN, DL.dMake, DL.dProp, DL.dMeth, DL.dFmt, DL.dJs, DL.look, DL.lookL, DL.frz, DL.frzL, DL.startD, DL.startT, DL.sSeq, DL.sIf, DL.sRet, DL.sRetNew, DL.sRetN, DL.sAsg, DL.sNew, DL.sDrop, DL.sNext, DL.sPar, DL.sFor, DL.dSet, DL.endsP, DL.endsN, DL.endsT, DL.endsTN, DL.SV.toD, DL.Cell.toD, DL.isTy_str, DL.ixD_lst, DL.ixD_tup, DL.ixD_str, DL.ixD_dKs, DL.ixD_dKi, DL.inG_dKs, DL.inG_sign, DL.eqG_int, DL.eqG_str, DL.eqG_bl, DL.addD_int, DL.addD_str, DL.addD_lst, DL.addD_tup, DL.intD_int, DL.cmpD_int, DL.cmpD_str, DL.negD, DL.isNG1, DL.isN, DL.isiG, DL.isD, DL.isAnyG, DL.isAny, DL.isInsG, DL.lenG_str, DL.lenG_lst, DL.lenG_tup, DL.lenG_dK, DL.lenG_scr, DL.intG_int, DL.intG_bl, DL.intG_str, DL.strG, DL.absG, DL.two, DL.listG2_dK, DL.listG2_lst, DL.listG2_tup, DL.listG2_scr, DL.tupleG_lst, DL.tupleG_tup, DL.allG, DL.dSlice, DL.dNo, DL.dPart, DL.cutD_str, DL.cutD_lst, DL.cutD_tup, DL.dGNil, DL.dGCons, DL.dTupT, DL.dIter, DL.dRange1, DL.dRange2, DL.atI_0, DL.atI_1, DL.atI_2, DL.atI_3, DL.atI_4, DL.hotAt, DL.putAt, DL.SV.put, DL.dAppend, DL.dExtend, DL.sStore, DL.storeD, DL.sFldD, DL.putFD, DL.dFld, DL.splitG, DL.partitionG, DL.startsG, DL.joinG, DL.dClear, List.getElem?_cons_zero, List.getElem?_cons_succ, List.set_cons_zero, List.set_cons_succ, List.length_cons, List.length_nil, List.map_cons, List.map_nil, List.replicate_succ, List.replicate_zero, List.nil_append, List.cons_append, Nat.reduceAdd, Nat.reduceSub, Bool.bne_false, Bool.bne_true, Bool.not_true, Bool.not_false, decide_eq_true_eq, Bool.false_eq_true, reduceIte, and_true, true_and, if_true, if_false, decide_true, decide_false, t__law_tape, listG, tapeL]
  exact ⟨by decide, by simp⟩
theorem gcd_step (a b : Nat) : Nat.gcd (b % a) a = Nat.gcd a b := (Nat.gcd_rec a b).symm
theorem low_loop {D' : DEnds} {s0 s1 : Option SV} : ∀ (n : Nat) (l : List D) (a b : Nat) (v4 v5 : Option SV), a ≤ n → n < l.length →
    (∀ v4 v5, D'.nx [s0, s1, some (.imm (.int (0 : Nat))), some (.imm (.int (Nat.gcd a b))), v4, v5]) →
    forGo (dSet 4) (sSeq (sIf (dTest (dBin (eqG false) (dVar 2) (dC (.int 0)))) sBreak sNext)
  (sSeq (sAsg (dBin modD (dCallL intG (dCons (dVar 3) dNil)) (dVar 2)) (dSet 5))
  (sSeq (sAsg (dVar 2) (dSet 3))
  (sAsg (dVar 5) (dSet 2))))) l D' [s0, s1, some (.imm (.int a)), some (.imm (.int b)), v4, v5] := by
  intro n
  induction n with
  | zero =>
    intro l a b v4 v5 ha hl h
    have e : a = 0 := by omega
    subst e
    cases l with
    | nil => simp at hl
    | cons d l =>
      unfold forGo
      have hz : ((0 : Nat) : Int) = 0 := rfl
      simp only [DL.dVar, DL.dC, DL.dBin, DL.dUn, DL.dTest, DL.dIf, DL.dAnd, DL.dOr, DL.dNot, DL.dAndV, DL.dOrV, DL.dNotV, DL.dChain, DL.dNil, DL.dCons, DL.dTup, DL.dLst, DL.dDK, DL.dFz, DL.dCallL, DL.dCallP, DL.dCallN, DL.dCallT, DL.dCallTN, DL.dMake, DL.dProp, DL.dMeth, DL.dFmt, DL.dJs, DL.look, DL.lookL, DL.frz, DL.frzL, DL.startD, DL.startT, DL.sSeq, DL.sIf, DL.sRet, DL.sRetNew, DL.sRetN, DL.sAsg, DL.sNew, DL.sDrop, DL.sNext, DL.sPar, DL.sFor, DL.dSet, DL.endsP, DL.endsN, DL.endsT, DL.endsTN, DL.SV.toD, DL.Cell.toD, DL.isTy_str, DL.ixD_lst, DL.ixD_tup, DL.ixD_str, DL.ixD_dKs, DL.ixD_dKi, DL.inG_dKs, DL.inG_sign, DL.eqG_int, DL.eqG_str, DL.eqG_bl, DL.addD_int, DL.addD_str, DL.addD_lst, DL.addD_tup, DL.intD_int, DL.cmpD_int, DL.cmpD_str, DL.negD, DL.isNG1, DL.isN, DL.isiG, DL.isD, DL.isAnyG, DL.isAny, DL.isInsG, DL.lenG_str, DL.lenG_lst, DL.lenG_tup, DL.lenG_dK, DL.lenG_scr, DL.intG_int, DL.intG_bl, DL.intG_str, DL.strG, DL.absG, DL.two, DL.listG2_dK, DL.listG2_lst, DL.listG2_tup, DL.listG2_scr, DL.tupleG_lst, DL.tupleG_tup, DL.allG, DL.dSlice, DL.dNo, DL.dPart, DL.cutD_str, DL.cutD_lst, DL.cutD_tup, DL.dGNil, DL.dGCons, DL.dTupT, DL.dIter, DL.dRange1, DL.dRange2, DL.atI_0, DL.atI_1, DL.atI_2, DL.atI_3, DL.atI_4, DL.hotAt, DL.putAt, DL.SV.put, DL.dAppend, DL.dExtend, DL.sStore, DL.storeD, DL.sFldD, DL.putFD, DL.dFld, DL.splitG, DL.partitionG, DL.startsG, DL.joinG, DL.dClear, List.getElem?_cons_zero, List.getElem?_cons_succ, List.set_cons_zero, List.set_cons_succ, List.length_cons, List.length_nil, List.map_cons, List.map_nil, List.replicate_succ, List.replicate_zero, List.nil_append, List.cons_append, Nat.reduceAdd, Nat.reduceSub, Bool.bne_false, Bool.bne_true, Bool.not_true, Bool.not_false, decide_eq_true_eq, Bool.false_eq_true, reduceIte, and_true, true_and, if_true, if_false, decide_true, decide_false, sBreak, hz]
      rw [Nat.gcd_zero_left] at h
      exact h _ _
  | succ n ih =>
    intro l a b v4 v5 ha hl h
    cases l with
    | nil => simp at hl
    | cons d l =>
      unfold forGo
      by_cases z : a = 0
      · subst z
        have hz : ((0 : Nat) : Int) = 0 := rfl
        simp only [DL.dVar, DL.dC, DL.dBin, DL.dUn, DL.dTest, DL.dIf, DL.dAnd, DL.dOr, DL.dNot, DL.dAndV, DL.dOrV, DL.dNotV, DL.dChain, DL.dNil, DL.dCons, DL.dTup, DL.dLst, DL.dDK, DL.dFz, DL.dCallL, DL.dCallP, DL.dCallN, DL.dCallT, DL.dCallTN, DL.dMake, DL.dProp, DL.dMeth, DL.dFmt, DL.dJs, DL.look, DL.lookL, DL.frz, DL.frzL, DL.startD, DL.startT, DL.sSeq, DL.sIf, DL.sRet, DL.sRetNew, DL.sRetN, DL.sAsg, DL.sNew, DL.sDrop, DL.sNext, DL.sPar, DL.sFor, DL.dSet, DL.endsP, DL.endsN, DL.endsT, DL.endsTN, DL.SV.toD, DL.Cell.toD, DL.isTy_str, DL.ixD_lst, DL.ixD_tup, DL.ixD_str, DL.ixD_dKs, DL.ixD_dKi, DL.inG_dKs, DL.inG_sign, DL.eqG_int, DL.eqG_str, DL.eqG_bl, DL.addD_int, DL.addD_str, DL.addD_lst, DL.addD_tup, DL.intD_int, DL.cmpD_int, DL.cmpD_str, DL.negD, DL.isNG1, DL.isN, DL.isiG, DL.isD, DL.isAnyG, DL.isAny, DL.isInsG, DL.lenG_str, DL.lenG_lst, DL.lenG_tup, DL.lenG_dK, DL.lenG_scr, DL.intG_int, DL.intG_bl, DL.intG_str, DL.strG, DL.absG, DL.two, DL.listG2_dK, DL.listG2_lst, DL.listG2_tup, DL.listG2_scr, DL.tupleG_lst, DL.tupleG_tup, DL.allG, DL.dSlice, DL.dNo, DL.dPart, DL.cutD_str, DL.cutD_lst, DL.cutD_tup, DL.dGNil, DL.dGCons, DL.dTupT, DL.dIter, DL.dRange1, DL.dRange2, DL.atI_0, DL.atI_1, DL.atI_2, DL.atI_3, DL.atI_4, DL.hotAt, DL.putAt, DL.SV.put, DL.dAppend, DL.dExtend, DL.sStore, DL.storeD, DL.sFldD, DL.putFD, DL.dFld, DL.splitG, DL.partitionG, DL.startsG, DL.joinG, DL.dClear, List.getElem?_cons_zero, List.getElem?_cons_succ, List.set_cons_zero, List.set_cons_succ, List.length_cons, List.length_nil, List.map_cons, List.map_nil, List.replicate_succ, List.replicate_zero, List.nil_append, List.cons_append, Nat.reduceAdd, Nat.reduceSub, Bool.bne_false, Bool.bne_true, Bool.not_true, Bool.not_false, decide_eq_true_eq, Bool.false_eq_true, reduceIte, and_true, true_and, if_true, if_false, decide_true, decide_false, sBreak, hz]
        rw [Nat.gcd_zero_left] at h
        exact h _ _
      · have z' : ¬ ((a : Int) = 0) := by omega
        have z2 : (0 : Int) < (a : Int) := by omega
        simp only [DL.dVar, DL.dC, DL.dBin, DL.dUn, DL.dTest, DL.dIf, DL.dAnd, DL.dOr, DL.dNot, DL.dAndV, DL.dOrV, DL.dNotV, DL.dChain, DL.dNil, DL.dCons, DL.dTup, DL.dLst, DL.dDK, DL.dFz, DL.dCallL, DL.dCallP, DL.dCallN, DL.dCallT, DL.dCallTN, DL.dMake, DL.dProp, DL.dMeth, DL.dFmt, DL.dJs, DL.look, DL.lookL, DL.frz, DL.frzL, DL.startD, DL.startT, DL.sSeq, DL.sIf, DL.sRet, DL.sRetNew, DL.sRetN, DL.sAsg, DL.sNew, DL.sDrop, DL.sNext, DL.sPar, DL.sFor, DL.dSet, DL.endsP, DL.endsN, DL.endsT, DL.endsTN, DL.SV.toD, DL.Cell.toD, DL.isTy_str, DL.ixD_lst, DL.ixD_tup, DL.ixD_str, DL.ixD_dKs, DL.ixD_dKi, DL.inG_dKs, DL.inG_sign, DL.eqG_int, DL.eqG_str, DL.eqG_bl, DL.addD_int, DL.addD_str, DL.addD_lst, DL.addD_tup, DL.intD_int, DL.cmpD_int, DL.cmpD_str, DL.negD, DL.isNG1, DL.isN, DL.isiG, DL.isD, DL.isAnyG, DL.isAny, DL.isInsG, DL.lenG_str, DL.lenG_lst, DL.lenG_tup, DL.lenG_dK, DL.lenG_scr, DL.intG_int, DL.intG_bl, DL.intG_str, DL.strG, DL.absG, DL.two, DL.listG2_dK, DL.listG2_lst, DL.listG2_tup, DL.listG2_scr, DL.tupleG_lst, DL.tupleG_tup, DL.allG, DL.dSlice, DL.dNo, DL.dPart, DL.cutD_str, DL.cutD_lst, DL.cutD_tup, DL.dGNil, DL.dGCons, DL.dTupT, DL.dIter, DL.dRange1, DL.dRange2, DL.atI_0, DL.atI_1, DL.atI_2, DL.atI_3, DL.atI_4, DL.hotAt, DL.putAt, DL.SV.put, DL.dAppend, DL.dExtend, DL.sStore, DL.storeD, DL.sFldD, DL.putFD, DL.dFld, DL.splitG, DL.partitionG, DL.startsG, DL.joinG, DL.dClear, List.getElem?_cons_zero, List.getElem?_cons_succ, List.set_cons_zero, List.set_cons_succ, List.length_cons, List.length_nil, List.map_cons, List.map_nil, List.replicate_succ, List.replicate_zero, List.nil_append, List.cons_append, Nat.reduceAdd, Nat.reduceSub, Bool.bne_false, Bool.bne_true, Bool.not_true, Bool.not_false, decide_eq_true_eq, Bool.false_eq_true, reduceIte, and_true, true_and, if_true, if_false, decide_true, decide_false, z', z2]
        have e : ((b : Int) % (a : Int)) = ((b % a : Nat) : Int) := rfl
        rw [e]
        refine ih l (b % a) a _ _ (by have := Nat.mod_lt b (Nat.pos_of_ne_zero z); omega) (by rw [List.length_cons] at hl; omega) ?_
        rw [gcd_step]
        exact h
theorem rangeD_len (i : Int) (n : Nat) : (rangeD i n).length = n := by unfold rangeD; simp
theorem low_first {D' : DEnds} {s0 s1 v4 v5 : Option SV} {l : List D} (a b : Nat) (hb : 0 < b) (hb2 : b < 2000) (hl : l.length = 4000)
    (h : ∀ v4 v5, D'.nx [s0, s1, some (.imm (.int (0 : Nat))), some (.imm (.int (Nat.gcd a b))), v4, v5]) :
    forGo (dSet 4) (sSeq (sIf (dTest (dBin (eqG false) (dVar 2) (dC (.int 0)))) sBreak sNext)
  (sSeq (sAsg (dBin modD (dCallL intG (dCons (dVar 3) dNil)) (dVar 2)) (dSet 5))
  (sSeq (sAsg (dVar 2) (dSet 3))
  (sAsg (dVar 5) (dSet 2))))) l D' [s0, s1, some (.imm (.int a)), some (.imm (.int b)), v4, v5] := by
  by_cases z : a = 0
  · exact low_loop 0 l a b v4 v5 (by omega) (by omega) h
  · cases l with
    | nil => simp at hl
    | cons d l =>
      rw [List.length_cons] at hl
      unfold forGo
      have z' : ¬ ((a : Int) = 0) := by omega
      have z2 : (0 : Int) < (a : Int) := by omega
      simp only [DL.dVar, DL.dC, DL.dBin, DL.dUn, DL.dTest, DL.dIf, DL.dAnd, DL.dOr, DL.dNot, DL.dAndV, DL.dOrV, DL.dNotV, DL.dChain, DL.dNil, DL.dCons, DL.dTup, DL.dLst, DL.dDK, DL.dFz, DL.dCallL, DL.dCallP, DL.dCallN, DL.dCallT, DL.dCallTN, DL.dMake, DL.dProp, DL.dMeth, DL.dFmt, DL.dJs, DL.look, DL.lookL, DL.frz, DL.frzL, DL.startD, DL.startT, DL.sSeq, DL.sIf, DL.sRet, DL.sRetNew, DL.sRetN, DL.sAsg, DL.sNew, DL.sDrop, DL.sNext, DL.sPar, DL.sFor, DL.dSet, DL.endsP, DL.endsN, DL.endsT, DL.endsTN, DL.SV.toD, DL.Cell.toD, DL.isTy_str, DL.ixD_lst, DL.ixD_tup, DL.ixD_str, DL.ixD_dKs, DL.ixD_dKi, DL.inG_dKs, DL.inG_sign, DL.eqG_int, DL.eqG_str, DL.eqG_bl, DL.addD_int, DL.addD_str, DL.addD_lst, DL.addD_tup, DL.intD_int, DL.cmpD_int, DL.cmpD_str, DL.negD, DL.isNG1, DL.isN, DL.isiG, DL.isD, DL.isAnyG, DL.isAny, DL.isInsG, DL.lenG_str, DL.lenG_lst, DL.lenG_tup, DL.lenG_dK, DL.lenG_scr, DL.intG_int, DL.intG_bl, DL.intG_str, DL.strG, DL.absG, DL.two, DL.listG2_dK, DL.listG2_lst, DL.listG2_tup, DL.listG2_scr, DL.tupleG_lst, DL.tupleG_tup, DL.allG, DL.dSlice, DL.dNo, DL.dPart, DL.cutD_str, DL.cutD_lst, DL.cutD_tup, DL.dGNil, DL.dGCons, DL.dTupT, DL.dIter, DL.dRange1, DL.dRange2, DL.atI_0, DL.atI_1, DL.atI_2, DL.atI_3, DL.atI_4, DL.hotAt, DL.putAt, DL.SV.put, DL.dAppend, DL.dExtend, DL.sStore, DL.storeD, DL.sFldD, DL.putFD, DL.dFld, DL.splitG, DL.partitionG, DL.startsG, DL.joinG, DL.dClear, List.getElem?_cons_zero, List.getElem?_cons_succ, List.set_cons_zero, List.set_cons_succ, List.length_cons, List.length_nil, List.map_cons, List.map_nil, List.replicate_succ, List.replicate_zero, List.nil_append, List.cons_append, Nat.reduceAdd, Nat.reduceSub, Bool.bne_false, Bool.bne_true, Bool.not_true, Bool.not_false, decide_eq_true_eq, Bool.false_eq_true, reduceIte, and_true, true_and, if_true, if_false, decide_true, decide_false, z', z2]
      have e : ((b : Int) % (a : Int)) = ((b % a : Nat) : Int) := rfl
      rw [e]
      have hm : b % a ≤ b := Nat.mod_le _ _
      refine low_loop 2000 l (b % a) a _ _ (by omega) (by omega) ?_
      rw [gcd_step]
      exact h
theorem h__law_lowest : ∀ ds r, M__law_lowest ds r → t__law_lowest (endsP r) (startD N__law_lowest.length ds) := by
  rintro _ _ ⟨a, b, ha, hb, hb2, rfl, rfl⟩
  obtain ⟨m, rfl⟩ := Int.eq_ofNat_of_zero_le (Int.le_of_lt hb)
  have e1 : (if a < 0 then -a else a) = (a.natAbs : Int) := by split <;> omega
  simp only [DL.dVar, DL.dC, DL.dBin, DL.dUn, DL.dTest, DL.dIf, DL.dAnd, DL.dOr, DL.dNot, DL.dAndV, DL.dOrV, DL.dNotV, DL.dChain, DL.dNil, DL.dCons, DL.dTup, DL.dLst, DL.dDK, DL.dFz, DL.dCallL, DL.dCallP, DL.dCallN, DL.dCallT, DL.dCallTN, DL.dMake, DL.dProp, DL.dMeth, DL.dFmt, DL.dJs, DL.look, DL.lookL, DL.frz, DL.frzL, DL.startD, DL.startT, DL.sSeq, DL.sIf, DL.sRet, DL.sRetNew, DL.sRetN, DL.sAsg, DL.sNew, DL.sDrop, DL.sNext, DL.sPar, DL.sFor, DL.dSet, DL.endsP, DL.endsN, DL.endsT, DL.endsTN, DL.SV.toD, DL.Cell.toD, DL.isTy_str, DL.ixD_lst, DL.ixD_tup, DL.ixD_str, DL.ixD_dKs, DL.ixD_dKi, DL.inG_dKs, DL.inG_sign, DL.eqG_int, DL.eqG_str, DL.eqG_bl, DL.addD_int, DL.addD_str, DL.addD_lst, DL.addD_tup, DL.intD_int, DL.cmpD_int, DL.cmpD_str, DL.negD, DL.isNG1, DL.isN, DL.isiG, DL.isD, DL.isAnyG, DL.isAny, DL.isInsG, DL.lenG_str, DL.lenG_lst, DL.lenG_tup, DL.lenG_dK, DL.lenG_scr, DL.intG_int, DL.intG_bl, DL.intG_str, DL.strG, DL.absG, DL.two, DL.listG2_dK, DL.listG2_lst, DL.listG2_tup, DL.listG2_scr, DL.tupleG_lst, DL.tupleG_tup, DL.allG, DL.dSlice, DL.dNo, DL.dPart, DL.cutD_str, DL.cutD_lst, DL.cutD_tup, DL.dGNil, DL.dGCons, DL.dTupT, DL.dIter, DL.dRange1, DL.dRange2, DL.atI_0, DL.atI_1, DL.atI_2, DL.atI_3, DL.atI_4, DL.hotAt, DL.putAt, DL.SV.put, DL.dAppend, DL.dExtend, DL.sStore, DL.storeD, DL.sFldD, DL.putFD, DL.dFld, DL.splitG, DL.partitionG, DL.startsG, DL.joinG, DL.dClear, List.getElem?_cons_zero, List.getElem?_cons_succ, List.set_cons_zero, List.set_cons_succ, List.length_cons, List.length_nil, List.map_cons, List.map_nil, List.replicate_succ, List.replicate_zero, List.nil_append, List.cons_append, Nat.reduceAdd, Nat.reduceSub, Bool.bne_false, Bool.bne_true, Bool.not_true, Bool.not_false, decide_eq_true_eq, Bool.false_eq_true, reduceIte, and_true, true_and, if_true, if_false, decide_true, decide_false, t__law_lowest, e1]
  refine ⟨by decide, ?_⟩
  refine low_first a.natAbs m (by omega) (by omega) (rangeD_len _ _) fun v4 v5 => ?_
  have hg : Int.gcd a (m : Int) = Nat.gcd a.natAbs m := rfl
  have hp : 0 < Nat.gcd a.natAbs m := Nat.gcd_pos_of_pos_right _ (by omega)
  have hle : Nat.gcd a.natAbs m ≤ m := Nat.gcd_le_right _ (by omega)
  have hcd : CDivW a (Nat.gcd a.natAbs m : Nat) := ⟨by omega, by rw [Int.natAbs_natCast]; exact Nat.lt_trans (log_sm (i := (Nat.gcd a.natAbs m : Nat)) (by rw [Int.natAbs_natCast]; omega)) (by decide)⟩
  have hcd2 : CDivW (m : Int) (Nat.gcd a.natAbs m : Nat) := hcd
  simp only [DL.dVar, DL.dC, DL.dBin, DL.dUn, DL.dTest, DL.dIf, DL.dAnd, DL.dOr, DL.dNot, DL.dAndV, DL.dOrV, DL.dNotV, DL.dChain, DL.dNil, DL.dCons, DL.dTup, DL.dLst, DL.dDK, DL.dFz, DL.dCallL, DL.dCallP, DL.dCallN, DL.dCallT, DL.dCallTN, DL.dMake, DL.dProp, DL.dMeth, DL.dFmt, DL.dJs, DL.look, DL.lookL, DL.frz, DL.frzL, DL.startD, DL.startT, DL.sSeq, DL.sIf, DL.sRet, DL.sRetNew, DL.sRetN, DL.sAsg, DL.sNew, DL.sDrop, DL.sNext, DL.sPar, DL.sFor, DL.dSet, DL.endsP, DL.endsN, DL.endsT, DL.endsTN, DL.SV.toD, DL.Cell.toD, DL.isTy_str, DL.ixD_lst, DL.ixD_tup, DL.ixD_str, DL.ixD_dKs, DL.ixD_dKi, DL.inG_dKs, DL.inG_sign, DL.eqG_int, DL.eqG_str, DL.eqG_bl, DL.addD_int, DL.addD_str, DL.addD_lst, DL.addD_tup, DL.intD_int, DL.cmpD_int, DL.cmpD_str, DL.negD, DL.isNG1, DL.isN, DL.isiG, DL.isD, DL.isAnyG, DL.isAny, DL.isInsG, DL.lenG_str, DL.lenG_lst, DL.lenG_tup, DL.lenG_dK, DL.lenG_scr, DL.intG_int, DL.intG_bl, DL.intG_str, DL.strG, DL.absG, DL.two, DL.listG2_dK, DL.listG2_lst, DL.listG2_tup, DL.listG2_scr, DL.tupleG_lst, DL.tupleG_tup, DL.allG, DL.dSlice, DL.dNo, DL.dPart, DL.cutD_str, DL.cutD_lst, DL.cutD_tup, DL.dGNil, DL.dGCons, DL.dTupT, DL.dIter, DL.dRange1, DL.dRange2, DL.atI_0, DL.atI_1, DL.atI_2, DL.atI_3, DL.atI_4, DL.hotAt, DL.putAt, DL.SV.put, DL.dAppend, DL.dExtend, DL.sStore, DL.storeD, DL.sFldD, DL.putFD, DL.dFld, DL.splitG, DL.partitionG, DL.startsG, DL.joinG, DL.dClear, List.getElem?_cons_zero, List.getElem?_cons_succ, List.set_cons_zero, List.set_cons_succ, List.length_cons, List.length_nil, List.map_cons, List.map_nil, List.replicate_succ, List.replicate_zero, List.nil_append, List.cons_append, Nat.reduceAdd, Nat.reduceSub, Bool.bne_false, Bool.bne_true, Bool.not_true, Bool.not_false, decide_eq_true_eq, Bool.false_eq_true, reduceIte, and_true, true_and, if_true, if_false, decide_true, decide_false, hcd, hcd2, frD, low, hg]
  decide
end K86

set_option Elab.async false
set_option linter.all false
set_option maxRecDepth 100000
set_option maxHeartbeats 2000000
namespace K86
open PySem L2 DL TL
theorem ix50 : ixN 5 0 = some 0 := by decide
theorem ix51 : ixN 5 1 = some 1 := by decide
theorem ix52 : ixN 5 2 = some 2 := by decide
theorem ix53 : ixN 5 3 = some 3 := by decide
theorem ix54 : ixN 5 4 = some 4 := by decide
theorem cdiv {i s : Int} (h0 : 0 < s) (h1 : s < 2 ^ 30) : CDivW i s := ⟨h0, Nat.lt_trans (log_sm (by omega)) (by decide)⟩
theorem cm_r {i : Int} (j : Int) (h : -(2 ^ 64) < j ∧ j < 2 ^ 64) : CM i j := .inl (.inr h)
theorem cm_l {i j : Int} (h : -(2 ^ 64) < i ∧ i < 2 ^ 64) : CM i j := .inl (.inl h)
theorem cpow18 : CPow 10 18 := ⟨by decide, by decide, by decide⟩
theorem h__law_pick : ∀ c ds r c', M__law_pick c ds r c' → t__law_pick (endsT r c') (startT N__law_pick.length c ds) := by
  rintro _ _ _ _ ⟨⟨ns, at_, rest, mix, turn⟩, s, ⟨ok1, ok2, ok3⟩, tu, s0, s1, rfl, rfl, rfl, rfl⟩
  simp only at ok1 ok2 ok3 tu
  have c1 := cdiv (i := rest) s0 s1
  by_cases h : 1 < rest
  · have hp : pick ⟨ns, at_, rest, mix, turn⟩ s = (rest % s, ⟨ns, at_, rest / s, mix, turn⟩) := if_pos h
    rw [hp]
    simp only [DL.dVar, DL.dC, DL.dBin, DL.dUn, DL.dTest, DL.dIf, DL.dAnd, DL.dOr, DL.dNot, DL.dAndV, DL.dOrV, DL.dNotV, DL.dChain, DL.dNil, DL.dCons, DL.dTup, DL.dLst, DL.dDK, DL.dFz, DL.dCallL, DL.dCallP, DL.dCallN, DL.dCallT, DL.dCallTN, DL.dMake, DL.dProp, DL.dMeth, DL.dFmt, DL.dJs, DL.look, DL.lookL, DL.frz, DL.frzL, DL.startD, DL.startT, DL.sSeq, DL.sIf, DL.sRet, DL.sRetNew, DL.sRetN, DL.sAsg, DL.sNew, DL.sDrop, DL.sNext, DL.sPar, DL.sFor, DL.dSet, DL.endsP, DL.endsN, DL.endsT, DL.endsTN, DL.SV.toD, DL.Cell.toD, DL.isTy_str, DL.ixD_lst, DL.ixD_tup, DL.ixD_str, DL.ixD_dKs, DL.ixD_dKi, DL.inG_dKs, DL.inG_sign, DL.eqG_int, DL.eqG_str, DL.eqG_bl, DL.addD_int, DL.addD_str, DL.addD_lst, DL.addD_tup, DL.intD_int, DL.cmpD_int, DL.cmpD_str, DL.negD, DL.isNG1, DL.isN, DL.isiG, DL.isD, DL.isAnyG, DL.isAny, DL.isInsG, DL.lenG_str, DL.lenG_lst, DL.lenG_tup, DL.lenG_dK, DL.lenG_scr, DL.intG_int, DL.intG_bl, DL.intG_str, DL.strG, DL.absG, DL.two, DL.listG2_dK, DL.listG2_lst, DL.listG2_tup, DL.listG2_scr, DL.tupleG_lst, DL.tupleG_tup, DL.allG, DL.dSlice, DL.dNo, DL.dPart, DL.cutD_str, DL.cutD_lst, DL.cutD_tup, DL.dGNil, DL.dGCons, DL.dTupT, DL.dIter, DL.dRange1, DL.dRange2, DL.atI_0, DL.atI_1, DL.atI_2, DL.atI_3, DL.atI_4, DL.hotAt, DL.putAt, DL.SV.put, DL.dAppend, DL.dExtend, DL.sStore, DL.storeD, DL.sFldD, DL.putFD, DL.dFld, DL.splitG, DL.partitionG, DL.startsG, DL.joinG, DL.dClear, List.getElem?_cons_zero, List.getElem?_cons_succ, List.set_cons_zero, List.set_cons_succ, List.length_cons, List.length_nil, List.map_cons, List.map_nil, List.replicate_succ, List.replicate_zero, List.nil_append, List.cons_append, Nat.reduceAdd, Nat.reduceSub, Bool.bne_false, Bool.bne_true, Bool.not_true, Bool.not_false, decide_eq_true_eq, Bool.false_eq_true, reduceIte, and_true, true_and, if_true, if_false, decide_true, decide_false, t__law_pick, tapeL, h, ix52, Option.map_some, s0, c1]
  · have cell : ∀ (cl : Int) (at' : Nat) (v2 : Option SV), (pick ⟨ns, at_, rest, mix, turn⟩ s = if 10 ^ 18 ≤ cl then (cl % s, ⟨ns, at', cl / s, mix, turn + 1⟩) else ((mixed ⟨ns, at_, rest, mix, turn⟩ cl / 16) % s, ⟨ns, at', rest, mixed ⟨ns, at_, rest, mix, turn⟩ cl, turn + 1⟩)) →
        (sSeq (sIf (dTest (dBin geG (dVar 3) (dBin powD (dC (.int 10)) (dC (.int 18))))) (sSeq (sStore NW 0 (dBin fdivD (dVar 3) (dVar 1)) (dC (.int 2)))
  (sRet (dBin modD (dCallL intG (dCons (dVar 3) dNil)) (dVar 1)))) sNext)
  (sSeq (sAsg (dBin modD (dCallL intG (dCons (dBin addD (dBin addD (dBin mulD (dBin (ixD NW) (dVar 0) (dC (.int 3))) (dC (.int 48271))) (dBin modD (dCallL intG (dCons (dVar 3) dNil)) (dC (.int 2147483629)))) (dBin mulD (dBin (ixD NW) (dVar 0) (dC (.int 4))) (dC (.int 69621)))) dNil)) (dC (.int 2147483647))) (dSet 4))
  (sSeq (sAsg (dBin modD (dCallL intG (dCons (dBin mulD (dVar 4) (dBin addD (dBin fdivD (dVar 4) (dC (.int 1009))) (dC (.int 40692)))) dNil)) (dC (.int 2147483399))) (dSet 4))
  (sSeq (sStore NW 0 (dVar 4) (dC (.int 3)))
  (sRet (dBin modD (dCallL intG (dCons (dBin fdivD (dVar 4) (dC (.int 16))) dNil)) (dVar 1))))))) (endsT (.int (pick ⟨ns, at_, rest, mix, turn⟩ s).1) (.lst (tapeL (pick ⟨ns, at_, rest, mix, turn⟩ s).2)))
        [some (.brw 0 (.lst [.lst (ns.map .int), .int at', .int rest, .int mix, .int ((turn : Int) + 1)])), some (.imm (.int s)), v2, some (.imm (.int cl)), none] := by
      intro cl at' v2 hp
      have c2 := cdiv (i := cl) s0 s1
      by_cases h2 : 10 ^ 18 ≤ cl
      · rw [if_pos h2] at hp
        rw [hp]
        have h2' : (1000000000000000000 : Int) ≤ cl := h2
        simp only [DL.dVar, DL.dC, DL.dBin, DL.dUn, DL.dTest, DL.dIf, DL.dAnd, DL.dOr, DL.dNot, DL.dAndV, DL.dOrV, DL.dNotV, DL.dChain, DL.dNil, DL.dCons, DL.dTup, DL.dLst, DL.dDK, DL.dFz, DL.dCallL, DL.dCallP, DL.dCallN, DL.dCallT, DL.dCallTN, DL.dMake, DL.dProp, DL.dMeth, DL.dFmt, DL.dJs, DL.look, DL.lookL, DL.frz, DL.frzL, DL.startD, DL.startT, DL.sSeq, DL.sIf, DL.sRet, DL.sRetNew, DL.sRetN, DL.sAsg, DL.sNew, DL.sDrop, DL.sNext, DL.sPar, DL.sFor, DL.dSet, DL.endsP, DL.endsN, DL.endsT, DL.endsTN, DL.SV.toD, DL.Cell.toD, DL.isTy_str, DL.ixD_lst, DL.ixD_tup, DL.ixD_str, DL.ixD_dKs, DL.ixD_dKi, DL.inG_dKs, DL.inG_sign, DL.eqG_int, DL.eqG_str, DL.eqG_bl, DL.addD_int, DL.addD_str, DL.addD_lst, DL.addD_tup, DL.intD_int, DL.cmpD_int, DL.cmpD_str, DL.negD, DL.isNG1, DL.isN, DL.isiG, DL.isD, DL.isAnyG, DL.isAny, DL.isInsG, DL.lenG_str, DL.lenG_lst, DL.lenG_tup, DL.lenG_dK, DL.lenG_scr, DL.intG_int, DL.intG_bl, DL.intG_str, DL.strG, DL.absG, DL.two, DL.listG2_dK, DL.listG2_lst, DL.listG2_tup, DL.listG2_scr, DL.tupleG_lst, DL.tupleG_tup, DL.allG, DL.dSlice, DL.dNo, DL.dPart, DL.cutD_str, DL.cutD_lst, DL.cutD_tup, DL.dGNil, DL.dGCons, DL.dTupT, DL.dIter, DL.dRange1, DL.dRange2, DL.atI_0, DL.atI_1, DL.atI_2, DL.atI_3, DL.atI_4, DL.hotAt, DL.putAt, DL.SV.put, DL.dAppend, DL.dExtend, DL.sStore, DL.storeD, DL.sFldD, DL.putFD, DL.dFld, DL.splitG, DL.partitionG, DL.startsG, DL.joinG, DL.dClear, List.getElem?_cons_zero, List.getElem?_cons_succ, List.set_cons_zero, List.set_cons_succ, List.length_cons, List.length_nil, List.map_cons, List.map_nil, List.replicate_succ, List.replicate_zero, List.nil_append, List.cons_append, Nat.reduceAdd, Nat.reduceSub, Bool.bne_false, Bool.bne_true, Bool.not_true, Bool.not_false, decide_eq_true_eq, Bool.false_eq_true, reduceIte, and_true, true_and, if_true, if_false, decide_true, decide_false, tapeL, ix52, Option.map_some, s0, c2, cpow18, Int.reduceToNat, Int.reducePow, h2']
        rw [show ((turn + 1 : Nat) : Int) = (turn : Int) + 1 by omega]
      · rw [if_neg h2] at hp
        rw [hp]
        have h2' : ¬ (1000000000000000000 : Int) ≤ cl := h2
        have d1 : ∀ i, CDivW i 1009 := fun i => cdiv (by decide) (by decide)
        have d2 : ∀ i, CDivW i 16 := fun i => cdiv (by decide) (by decide)
        have m1 : ∀ i, CM i 48271 := fun i => cm_r _ ⟨by decide, by decide⟩
        have m2 : ∀ i, CM i 69621 := fun i => cm_r _ ⟨by decide, by decide⟩
        have m3 : ∀ i j : Int, CM (i % 2147483647) j := fun i j => cm_l ⟨by omega, by omega⟩
        simp only [DL.dVar, DL.dC, DL.dBin, DL.dUn, DL.dTest, DL.dIf, DL.dAnd, DL.dOr, DL.dNot, DL.dAndV, DL.dOrV, DL.dNotV, DL.dChain, DL.dNil, DL.dCons, DL.dTup, DL.dLst, DL.dDK, DL.dFz, DL.dCallL, DL.dCallP, DL.dCallN, DL.dCallT, DL.dCallTN, DL.dMake, DL.dProp, DL.dMeth, DL.dFmt, DL.dJs, DL.look, DL.lookL, DL.frz, DL.frzL, DL.startD, DL.startT, DL.sSeq, DL.sIf, DL.sRet, DL.sRetNew, DL.sRetN, DL.sAsg, DL.sNew, DL.sDrop, DL.sNext, DL.sPar, DL.sFor, DL.dSet, DL.endsP, DL.endsN, DL.endsT, DL.endsTN, DL.SV.toD, DL.Cell.toD, DL.isTy_str, DL.ixD_lst, DL.ixD_tup, DL.ixD_str, DL.ixD_dKs, DL.ixD_dKi, DL.inG_dKs, DL.inG_sign, DL.eqG_int, DL.eqG_str, DL.eqG_bl, DL.addD_int, DL.addD_str, DL.addD_lst, DL.addD_tup, DL.intD_int, DL.cmpD_int, DL.cmpD_str, DL.negD, DL.isNG1, DL.isN, DL.isiG, DL.isD, DL.isAnyG, DL.isAny, DL.isInsG, DL.lenG_str, DL.lenG_lst, DL.lenG_tup, DL.lenG_dK, DL.lenG_scr, DL.intG_int, DL.intG_bl, DL.intG_str, DL.strG, DL.absG, DL.two, DL.listG2_dK, DL.listG2_lst, DL.listG2_tup, DL.listG2_scr, DL.tupleG_lst, DL.tupleG_tup, DL.allG, DL.dSlice, DL.dNo, DL.dPart, DL.cutD_str, DL.cutD_lst, DL.cutD_tup, DL.dGNil, DL.dGCons, DL.dTupT, DL.dIter, DL.dRange1, DL.dRange2, DL.atI_0, DL.atI_1, DL.atI_2, DL.atI_3, DL.atI_4, DL.hotAt, DL.putAt, DL.SV.put, DL.dAppend, DL.dExtend, DL.sStore, DL.storeD, DL.sFldD, DL.putFD, DL.dFld, DL.splitG, DL.partitionG, DL.startsG, DL.joinG, DL.dClear, List.getElem?_cons_zero, List.getElem?_cons_succ, List.set_cons_zero, List.set_cons_succ, List.length_cons, List.length_nil, List.map_cons, List.map_nil, List.replicate_succ, List.replicate_zero, List.nil_append, List.cons_append, Nat.reduceAdd, Nat.reduceSub, Bool.bne_false, Bool.bne_true, Bool.not_true, Bool.not_false, decide_eq_true_eq, Bool.false_eq_true, reduceIte, and_true, true_and, if_true, if_false, decide_true, decide_false, tapeL, ix53, Option.map_some, s0, cpow18, Int.reduceToNat, Int.reducePow, h2', d1, d2, m1, m2, m3]
        rw [show ((turn + 1 : Nat) : Int) = (turn : Int) + 1 by omega]
        exact ⟨by decide, by decide, by decide, rfl, rfl⟩
    by_cases h4 : at_ < ns.length
    · have e : atI (ns.map D.int) (at_ : Int) = some (.int (ns.getD at_ 0)) := atI_nat (by rw [List.getElem?_map, List.getElem?_eq_getElem h4]; simp [List.getD, List.getElem?_eq_getElem h4])
      have h4' : (at_ : Int) < (ns.length : Int) := by omega
      have := cell (ns.getD at_ 0) (at_ + 1) none (by unfold pick; rw [if_neg h]; simp only [h4, if_true])
      rw [show ((at_ + 1 : Nat) : Int) = (at_ : Int) + 1 by omega] at this
      simp only [DL.dVar, DL.dC, DL.dBin, DL.dUn, DL.dTest, DL.dIf, DL.dAnd, DL.dOr, DL.dNot, DL.dAndV, DL.dOrV, DL.dNotV, DL.dChain, DL.dNil, DL.dCons, DL.dTup, DL.dLst, DL.dDK, DL.dFz, DL.dCallL, DL.dCallP, DL.dCallN, DL.dCallT, DL.dCallTN, DL.dMake, DL.dProp, DL.dMeth, DL.dFmt, DL.dJs, DL.look, DL.lookL, DL.frz, DL.frzL, DL.startD, DL.startT, DL.sSeq, DL.sIf, DL.sRet, DL.sRetNew, DL.sRetN, DL.sAsg, DL.sNew, DL.sDrop, DL.sNext, DL.sPar, DL.sFor, DL.dSet, DL.endsP, DL.endsN, DL.endsT, DL.endsTN, DL.SV.toD, DL.Cell.toD, DL.isTy_str, DL.ixD_lst, DL.ixD_tup, DL.ixD_str, DL.ixD_dKs, DL.ixD_dKi, DL.inG_dKs, DL.inG_sign, DL.eqG_int, DL.eqG_str, DL.eqG_bl, DL.addD_int, DL.addD_str, DL.addD_lst, DL.addD_tup, DL.intD_int, DL.cmpD_int, DL.cmpD_str, DL.negD, DL.isNG1, DL.isN, DL.isiG, DL.isD, DL.isAnyG, DL.isAny, DL.isInsG, DL.lenG_str, DL.lenG_lst, DL.lenG_tup, DL.lenG_dK, DL.lenG_scr, DL.intG_int, DL.intG_bl, DL.intG_str, DL.strG, DL.absG, DL.two, DL.listG2_dK, DL.listG2_lst, DL.listG2_tup, DL.listG2_scr, DL.tupleG_lst, DL.tupleG_tup, DL.allG, DL.dSlice, DL.dNo, DL.dPart, DL.cutD_str, DL.cutD_lst, DL.cutD_tup, DL.dGNil, DL.dGCons, DL.dTupT, DL.dIter, DL.dRange1, DL.dRange2, DL.atI_0, DL.atI_1, DL.atI_2, DL.atI_3, DL.atI_4, DL.hotAt, DL.putAt, DL.SV.put, DL.dAppend, DL.dExtend, DL.sStore, DL.storeD, DL.sFldD, DL.putFD, DL.dFld, DL.splitG, DL.partitionG, DL.startsG, DL.joinG, DL.dClear, List.getElem?_cons_zero, List.getElem?_cons_succ, List.set_cons_zero, List.set_cons_succ, List.length_cons, List.length_nil, List.map_cons, List.map_nil, List.replicate_succ, List.replicate_zero, List.nil_append, List.cons_append, Nat.reduceAdd, Nat.reduceSub, Bool.bne_false, Bool.bne_true, Bool.not_true, Bool.not_false, decide_eq_true_eq, Bool.false_eq_true, reduceIte, and_true, true_and, if_true, if_false, decide_true, decide_false, tapeL] at this
      simp only [DL.dVar, DL.dC, DL.dBin, DL.dUn, DL.dTest, DL.dIf, DL.dAnd, DL.dOr, DL.dNot, DL.dAndV, DL.dOrV, DL.dNotV, DL.dChain, DL.dNil, DL.dCons, DL.dTup, DL.dLst, DL.dDK, DL.dFz, DL.dCallL, DL.dCallP, DL.dCallN, DL.dCallT, DL.dCallTN, DL.dMake, DL.dProp, DL.dMeth, DL.dFmt, DL.dJs, DL.look, DL.lookL, DL.frz, DL.frzL, DL.startD, DL.startT, DL.sSeq, DL.sIf, DL.sRet, DL.sRetNew, DL.sRetN, DL.sAsg, DL.sNew, DL.sDrop, DL.sNext, DL.sPar, DL.sFor, DL.dSet, DL.endsP, DL.endsN, DL.endsT, DL.endsTN, DL.SV.toD, DL.Cell.toD, DL.isTy_str, DL.ixD_lst, DL.ixD_tup, DL.ixD_str, DL.ixD_dKs, DL.ixD_dKi, DL.inG_dKs, DL.inG_sign, DL.eqG_int, DL.eqG_str, DL.eqG_bl, DL.addD_int, DL.addD_str, DL.addD_lst, DL.addD_tup, DL.intD_int, DL.cmpD_int, DL.cmpD_str, DL.negD, DL.isNG1, DL.isN, DL.isiG, DL.isD, DL.isAnyG, DL.isAny, DL.isInsG, DL.lenG_str, DL.lenG_lst, DL.lenG_tup, DL.lenG_dK, DL.lenG_scr, DL.intG_int, DL.intG_bl, DL.intG_str, DL.strG, DL.absG, DL.two, DL.listG2_dK, DL.listG2_lst, DL.listG2_tup, DL.listG2_scr, DL.tupleG_lst, DL.tupleG_tup, DL.allG, DL.dSlice, DL.dNo, DL.dPart, DL.cutD_str, DL.cutD_lst, DL.cutD_tup, DL.dGNil, DL.dGCons, DL.dTupT, DL.dIter, DL.dRange1, DL.dRange2, DL.atI_0, DL.atI_1, DL.atI_2, DL.atI_3, DL.atI_4, DL.hotAt, DL.putAt, DL.SV.put, DL.dAppend, DL.dExtend, DL.sStore, DL.storeD, DL.sFldD, DL.putFD, DL.dFld, DL.splitG, DL.partitionG, DL.startsG, DL.joinG, DL.dClear, List.getElem?_cons_zero, List.getElem?_cons_succ, List.set_cons_zero, List.set_cons_succ, List.length_cons, List.length_nil, List.map_cons, List.map_nil, List.replicate_succ, List.replicate_zero, List.nil_append, List.cons_append, Nat.reduceAdd, Nat.reduceSub, Bool.bne_false, Bool.bne_true, Bool.not_true, Bool.not_false, decide_eq_true_eq, Bool.false_eq_true, reduceIte, and_true, true_and, if_true, if_false, decide_true, decide_false, t__law_pick, tapeL, h, ix54, ix51, Option.map_some, List.length_map, h4', e]
      exact this
    · have h4' : ¬ (at_ : Int) < (ns.length : Int) := by omega
      have := cell 0 at_ none (by unfold pick; rw [if_neg h]; simp only [h4, if_false])
      simp only [DL.dVar, DL.dC, DL.dBin, DL.dUn, DL.dTest, DL.dIf, DL.dAnd, DL.dOr, DL.dNot, DL.dAndV, DL.dOrV, DL.dNotV, DL.dChain, DL.dNil, DL.dCons, DL.dTup, DL.dLst, DL.dDK, DL.dFz, DL.dCallL, DL.dCallP, DL.dCallN, DL.dCallT, DL.dCallTN, DL.dMake, DL.dProp, DL.dMeth, DL.dFmt, DL.dJs, DL.look, DL.lookL, DL.frz, DL.frzL, DL.startD, DL.startT, DL.sSeq, DL.sIf, DL.sRet, DL.sRetNew, DL.sRetN, DL.sAsg, DL.sNew, DL.sDrop, DL.sNext, DL.sPar, DL.sFor, DL.dSet, DL.endsP, DL.endsN, DL.endsT, DL.endsTN, DL.SV.toD, DL.Cell.toD, DL.isTy_str, DL.ixD_lst, DL.ixD_tup, DL.ixD_str, DL.ixD_dKs, DL.ixD_dKi, DL.inG_dKs, DL.inG_sign, DL.eqG_int, DL.eqG_str, DL.eqG_bl, DL.addD_int, DL.addD_str, DL.addD_lst, DL.addD_tup, DL.intD_int, DL.cmpD_int, DL.cmpD_str, DL.negD, DL.isNG1, DL.isN, DL.isiG, DL.isD, DL.isAnyG, DL.isAny, DL.isInsG, DL.lenG_str, DL.lenG_lst, DL.lenG_tup, DL.lenG_dK, DL.lenG_scr, DL.intG_int, DL.intG_bl, DL.intG_str, DL.strG, DL.absG, DL.two, DL.listG2_dK, DL.listG2_lst, DL.listG2_tup, DL.listG2_scr, DL.tupleG_lst, DL.tupleG_tup, DL.allG, DL.dSlice, DL.dNo, DL.dPart, DL.cutD_str, DL.cutD_lst, DL.cutD_tup, DL.dGNil, DL.dGCons, DL.dTupT, DL.dIter, DL.dRange1, DL.dRange2, DL.atI_0, DL.atI_1, DL.atI_2, DL.atI_3, DL.atI_4, DL.hotAt, DL.putAt, DL.SV.put, DL.dAppend, DL.dExtend, DL.sStore, DL.storeD, DL.sFldD, DL.putFD, DL.dFld, DL.splitG, DL.partitionG, DL.startsG, DL.joinG, DL.dClear, List.getElem?_cons_zero, List.getElem?_cons_succ, List.set_cons_zero, List.set_cons_succ, List.length_cons, List.length_nil, List.map_cons, List.map_nil, List.replicate_succ, List.replicate_zero, List.nil_append, List.cons_append, Nat.reduceAdd, Nat.reduceSub, Bool.bne_false, Bool.bne_true, Bool.not_true, Bool.not_false, decide_eq_true_eq, Bool.false_eq_true, reduceIte, and_true, true_and, if_true, if_false, decide_true, decide_false, tapeL] at this
      simp only [DL.dVar, DL.dC, DL.dBin, DL.dUn, DL.dTest, DL.dIf, DL.dAnd, DL.dOr, DL.dNot, DL.dAndV, DL.dOrV, DL.dNotV, DL.dChain, DL.dNil, DL.dCons, DL.dTup, DL.dLst, DL.dDK, DL.dFz, DL.dCallL, DL.dCallP, DL.dCallN, DL.dCallT, DL.dCallTN, DL.dMake, DL.dProp, DL.dMeth, DL.dFmt, DL.dJs, DL.look, DL.lookL, DL.frz, DL.frzL, DL.startD, DL.startT, DL.sSeq, DL.sIf, DL.sRet, DL.sRetNew, DL.sRetN, DL.sAsg, DL.sNew, DL.sDrop, DL.sNext, DL.sPar, DL.sFor, DL.dSet, DL.endsP, DL.endsN, DL.endsT, DL.endsTN, DL.SV.toD, DL.Cell.toD, DL.isTy_str, DL.ixD_lst, DL.ixD_tup, DL.ixD_str, DL.ixD_dKs, DL.ixD_dKi, DL.inG_dKs, DL.inG_sign, DL.eqG_int, DL.eqG_str, DL.eqG_bl, DL.addD_int, DL.addD_str, DL.addD_lst, DL.addD_tup, DL.intD_int, DL.cmpD_int, DL.cmpD_str, DL.negD, DL.isNG1, DL.isN, DL.isiG, DL.isD, DL.isAnyG, DL.isAny, DL.isInsG, DL.lenG_str, DL.lenG_lst, DL.lenG_tup, DL.lenG_dK, DL.lenG_scr, DL.intG_int, DL.intG_bl, DL.intG_str, DL.strG, DL.absG, DL.two, DL.listG2_dK, DL.listG2_lst, DL.listG2_tup, DL.listG2_scr, DL.tupleG_lst, DL.tupleG_tup, DL.allG, DL.dSlice, DL.dNo, DL.dPart, DL.cutD_str, DL.cutD_lst, DL.cutD_tup, DL.dGNil, DL.dGCons, DL.dTupT, DL.dIter, DL.dRange1, DL.dRange2, DL.atI_0, DL.atI_1, DL.atI_2, DL.atI_3, DL.atI_4, DL.hotAt, DL.putAt, DL.SV.put, DL.dAppend, DL.dExtend, DL.sStore, DL.storeD, DL.sFldD, DL.putFD, DL.dFld, DL.splitG, DL.partitionG, DL.startsG, DL.joinG, DL.dClear, List.getElem?_cons_zero, List.getElem?_cons_succ, List.set_cons_zero, List.set_cons_succ, List.length_cons, List.length_nil, List.map_cons, List.map_nil, List.replicate_succ, List.replicate_zero, List.nil_append, List.cons_append, Nat.reduceAdd, Nat.reduceSub, Bool.bne_false, Bool.bne_true, Bool.not_true, Bool.not_false, decide_eq_true_eq, Bool.false_eq_true, reduceIte, and_true, true_and, if_true, if_false, decide_true, decide_false, t__law_pick, tapeL, h, ix54, ix51, Option.map_some, List.length_map, h4']
      exact this
end K86

set_option Elab.async false
set_option linter.all false
set_option maxRecDepth 100000
set_option maxHeartbeats 2000000
namespace K86
open PySem L2 DL TL
structure PickOk (t : Tape) (s : Int) : Prop where
  lo : 0 ≤ (pick t s).1
  hi : (pick t s).1 < s
  ok : (pick t s).2.ok
  turn : (pick t s).2.turn ≤ t.turn + 1
theorem mixed_rng (t : Tape) (c : Int) : 0 ≤ mixed t c ∧ mixed t c < 2 ^ 31 := by
  unfold mixed
  simp only
  generalize (_ * _ : Int) = z
  omega
theorem pick_ok {t : Tape} {s : Int} (h : t.ok) (hs : 0 < s) : PickOk t s := by
  obtain ⟨ns, at_, rest, mix, turn⟩ := t
  obtain ⟨h1, h2, h3⟩ := h
  simp only at h1 h2 h3
  have key : ∀ (c : Int) (a : Nat), a ≤ ns.length → (pick ⟨ns, at_, rest, mix, turn⟩ s = if 10 ^ 18 ≤ c then (c % s, ⟨ns, a, c / s, mix, turn + 1⟩) else ((mixed ⟨ns, at_, rest, mix, turn⟩ c / 16) % s, ⟨ns, a, rest, mixed ⟨ns, at_, rest, mix, turn⟩ c, turn + 1⟩)) → PickOk ⟨ns, at_, rest, mix, turn⟩ s := by
    intro c a ha e
    obtain ⟨m1, m2⟩ := mixed_rng ⟨ns, at_, rest, mix, turn⟩ c
    split at e
    · exact ⟨by rw [e]; exact Int.emod_nonneg _ (by omega), by rw [e]; exact Int.emod_lt_of_pos _ hs, by rw [e]; exact ⟨h1, h2, ha⟩, by rw [e]; exact Nat.le_refl _⟩
    · exact ⟨by rw [e]; exact Int.emod_nonneg _ (by omega), by rw [e]; exact Int.emod_lt_of_pos _ hs, by rw [e]; exact ⟨m1, m2, ha⟩, by rw [e]; exact Nat.le_refl _⟩
  by_cases h : 1 < rest
  · have e : pick ⟨ns, at_, rest, mix, turn⟩ s = (rest % s, ⟨ns, at_, rest / s, mix, turn⟩) := if_pos h
    exact ⟨by rw [e]; exact Int.emod_nonneg _ (by omega), by rw [e]; exact Int.emod_lt_of_pos _ hs, by rw [e]; exact ⟨h1, h2, h3⟩, by rw [e]; exact Nat.le_succ _⟩
  · by_cases h4 : at_ < ns.length
    · exact key (ns.getD at_ 0) (at_ + 1) (by omega) (by unfold pick; rw [if_neg h]; simp only [h4, if_true])
    · exact key 0 at_ h3 (by unfold pick; rw [if_neg h]; simp only [h4, if_false])
theorem atI_ints (l : List Int) {k : Int} (h0 : 0 ≤ k) (h1 : k < l.length) (d : Int) : atI (l.map D.int) k = some (.int (l.getD k.toNat d)) := by
  have h2 : k.toNat < l.length := by omega
  refine atI_of k.toNat (by omega) ?_
  rw [List.getElem?_map, List.getElem?_eq_getElem h2]
  simp [List.getD, List.getElem?_eq_getElem h2]
def tops (g : Int) : List Int := [g % 10, g % 199 - 99, g % 10, 0, 10 ^ 50 - g]
def bots (g : Int) : List Int := [1, 1, 1 + (g / 10) % 7, 1, 1 + g % 1000]
theorem tops_rng {g k : Int} (h0 : 0 ≤ g) (h1 : g < 1000000) (k0 : 0 ≤ k) (k1 : k < 5) : ((tops g).getD k.toNat 0).natAbs < 10 ^ 52 := by
  obtain z | z | z | z | z : k = 0 ∨ k = 1 ∨ k = 2 ∨ k = 3 ∨ k = 4 := by omega
  all_goals subst z
  · show (g % 10).natAbs < _; omega
  · show (g % 199 - 99).natAbs < _; omega
  · show (g % 10).natAbs < _; omega
  · show (0 : Int).natAbs < _; decide
  · show (10 ^ 50 - g).natAbs < _; omega
theorem bots_rng {g k : Int} (k0 : 0 ≤ k) (k1 : k < 5) : 0 < (bots g).getD k.toNat 1 ∧ (bots g).getD k.toNat 1 < 2000 := by
  obtain z | z | z | z | z : k = 0 ∨ k = 1 ∨ k = 2 ∨ k = 3 ∨ k = 4 := by omega
  all_goals subst z
  · show (0 : Int) < 1 ∧ (1 : Int) < 2000; omega
  · show (0 : Int) < 1 ∧ (1 : Int) < 2000; omega
  · show (0 : Int) < 1 + (g / 10) % 7 ∧ 1 + (g / 10) % 7 < 2000; omega
  · show (0 : Int) < 1 ∧ (1 : Int) < 2000; omega
  · show (0 : Int) < 1 + g % 1000 ∧ 1 + g % 1000 < 2000; omega
theorem fracOf_eq (t : Tape) : fracOf t = (low ((tops (pick t 1000000).1).getD (pick (pick t 1000000).2 5).1.toNat 0) ((bots (pick t 1000000).1).getD (pick (pick t 1000000).2 5).1.toNat 1), (pick (pick t 1000000).2 5).2) := rfl
theorem cpow6 : CPow 10 6 := ⟨by decide, by decide, by decide⟩
theorem cpow50 : CPow 10 50 := ⟨by decide, by decide, by decide⟩
theorem h__law_fraction : ∀ c ds r c', M__law_fraction c ds r c' → t__law_fraction (endsT r c') (startT N__law_fraction.length c ds) := by
  rintro _ _ _ _ ⟨t, ok, tu, rfl, rfl, rfl, rfl⟩
  have p1 := pick_ok (s := 1000000) ok (by decide)
  have p2 := pick_ok (s := 5) p1.ok (by decide)
  have hF := fracOf_eq t
  generalize fracOf t = F at hF ⊢
  show t__law_fraction (endsT (frD F.1) (.lst (tapeL F.2))) [some (.brw 0 (.lst (tapeL t))), none, none, none]
  have hg0 := p1.lo
  have hg1 := p1.hi
  have hk0 := p2.lo
  have hk1 := p2.hi
  have ht2 := p1.turn
  simp only [DL.dVar, DL.dC, DL.dBin, DL.dUn, DL.dTest, DL.dIf, DL.dAnd, DL.dOr, DL.dNot, DL.dAndV, DL.dOrV, DL.dNotV, DL.dChain, DL.dNil, DL.dCons, DL.dTup, DL.dLst, DL.dDK, DL.dFz, DL.dCallL, DL.dCallP, DL.dCallN, DL.dCallT, DL.dCallTN, DL.dMake, DL.dProp, DL.dMeth, DL.dFmt, DL.dJs, DL.look, DL.lookL, DL.frz, DL.frzL, DL.startD, DL.startT, DL.sSeq, DL.sIf, DL.sRet, DL.sRetNew, DL.sRetN, DL.sAsg, DL.sNew, DL.sDrop, DL.sNext, DL.sPar, DL.sFor, DL.dSet, DL.endsP, DL.endsN, DL.endsT, DL.endsTN, DL.SV.toD, DL.Cell.toD, DL.isTy_str, DL.ixD_lst, DL.ixD_tup, DL.ixD_str, DL.ixD_dKs, DL.ixD_dKi, DL.inG_dKs, DL.inG_sign, DL.eqG_int, DL.eqG_str, DL.eqG_bl, DL.addD_int, DL.addD_str, DL.addD_lst, DL.addD_tup, DL.intD_int, DL.cmpD_int, DL.cmpD_str, DL.negD, DL.isNG1, DL.isN, DL.isiG, DL.isD, DL.isAnyG, DL.isAny, DL.isInsG, DL.lenG_str, DL.lenG_lst, DL.lenG_tup, DL.lenG_dK, DL.lenG_scr, DL.intG_int, DL.intG_bl, DL.intG_str, DL.strG, DL.absG, DL.two, DL.listG2_dK, DL.listG2_lst, DL.listG2_tup, DL.listG2_scr, DL.tupleG_lst, DL.tupleG_tup, DL.allG, DL.dSlice, DL.dNo, DL.dPart, DL.cutD_str, DL.cutD_lst, DL.cutD_tup, DL.dGNil, DL.dGCons, DL.dTupT, DL.dIter, DL.dRange1, DL.dRange2, DL.atI_0, DL.atI_1, DL.atI_2, DL.atI_3, DL.atI_4, DL.hotAt, DL.putAt, DL.SV.put, DL.dAppend, DL.dExtend, DL.sStore, DL.storeD, DL.sFldD, DL.putFD, DL.dFld, DL.splitG, DL.partitionG, DL.startsG, DL.joinG, DL.dClear, List.getElem?_cons_zero, List.getElem?_cons_succ, List.set_cons_zero, List.set_cons_succ, List.length_cons, List.length_nil, List.map_cons, List.map_nil, List.replicate_succ, List.replicate_zero, List.nil_append, List.cons_append, Nat.reduceAdd, Nat.reduceSub, Bool.bne_false, Bool.bne_true, Bool.not_true, Bool.not_false, decide_eq_true_eq, Bool.false_eq_true, reduceIte, and_true, true_and, if_true, if_false, decide_true, decide_false, t__law_fraction, cpow6, Int.reduceToNat, Int.reducePow]
  refine ⟨_, _, ⟨t, 1000000, ok, by omega, by decide, by decide, rfl, rfl, rfl, rfl⟩, ?_⟩
  simp only [DL.dVar, DL.dC, DL.dBin, DL.dUn, DL.dTest, DL.dIf, DL.dAnd, DL.dOr, DL.dNot, DL.dAndV, DL.dOrV, DL.dNotV, DL.dChain, DL.dNil, DL.dCons, DL.dTup, DL.dLst, DL.dDK, DL.dFz, DL.dCallL, DL.dCallP, DL.dCallN, DL.dCallT, DL.dCallTN, DL.dMake, DL.dProp, DL.dMeth, DL.dFmt, DL.dJs, DL.look, DL.lookL, DL.frz, DL.frzL, DL.startD, DL.startT, DL.sSeq, DL.sIf, DL.sRet, DL.sRetNew, DL.sRetN, DL.sAsg, DL.sNew, DL.sDrop, DL.sNext, DL.sPar, DL.sFor, DL.dSet, DL.endsP, DL.endsN, DL.endsT, DL.endsTN, DL.SV.toD, DL.Cell.toD, DL.isTy_str, DL.ixD_lst, DL.ixD_tup, DL.ixD_str, DL.ixD_dKs, DL.ixD_dKi, DL.inG_dKs, DL.inG_sign, DL.eqG_int, DL.eqG_str, DL.eqG_bl, DL.addD_int, DL.addD_str, DL.addD_lst, DL.addD_tup, DL.intD_int, DL.cmpD_int, DL.cmpD_str, DL.negD, DL.isNG1, DL.isN, DL.isiG, DL.isD, DL.isAnyG, DL.isAny, DL.isInsG, DL.lenG_str, DL.lenG_lst, DL.lenG_tup, DL.lenG_dK, DL.lenG_scr, DL.intG_int, DL.intG_bl, DL.intG_str, DL.strG, DL.absG, DL.two, DL.listG2_dK, DL.listG2_lst, DL.listG2_tup, DL.listG2_scr, DL.tupleG_lst, DL.tupleG_tup, DL.allG, DL.dSlice, DL.dNo, DL.dPart, DL.cutD_str, DL.cutD_lst, DL.cutD_tup, DL.dGNil, DL.dGCons, DL.dTupT, DL.dIter, DL.dRange1, DL.dRange2, DL.atI_0, DL.atI_1, DL.atI_2, DL.atI_3, DL.atI_4, DL.hotAt, DL.putAt, DL.SV.put, DL.dAppend, DL.dExtend, DL.sStore, DL.storeD, DL.sFldD, DL.putFD, DL.dFld, DL.splitG, DL.partitionG, DL.startsG, DL.joinG, DL.dClear, List.getElem?_cons_zero, List.getElem?_cons_succ, List.set_cons_zero, List.set_cons_succ, List.length_cons, List.length_nil, List.map_cons, List.map_nil, List.replicate_succ, List.replicate_zero, List.nil_append, List.cons_append, Nat.reduceAdd, Nat.reduceSub, Bool.bne_false, Bool.bne_true, Bool.not_true, Bool.not_false, decide_eq_true_eq, Bool.false_eq_true, reduceIte, and_true, true_and, if_true, if_false, decide_true, decide_false]
  refine ⟨_, _, ⟨_, 5, p1.ok, by omega, by decide, by decide, rfl, rfl, rfl, rfl⟩, ?_⟩
  generalize (pick t 1000000).1 = g at *
  generalize (pick (pick t 1000000).2 5).1 = k at *
  have d1 : CDivW g 10 := cdiv (by decide) (by decide)
  have e1 : atI [D.int (g % 10), .int (g % 199 - 99), .int (g % 10), .int 0, .int (100000000000000000000000000000000000000000000000000 - g)] k = some (.int ((tops g).getD k.toNat 0)) := atI_ints (tops g) hk0 hk1 0
  have e2 : atI [D.int 1, .int 1, .int (1 + (g / 10) % 7), .int 1, .int (1 + g % 1000)] k = some (.int ((bots g).getD k.toNat 1)) := atI_ints (bots g) hk0 hk1 1
  simp only [DL.dVar, DL.dC, DL.dBin, DL.dUn, DL.dTest, DL.dIf, DL.dAnd, DL.dOr, DL.dNot, DL.dAndV, DL.dOrV, DL.dNotV, DL.dChain, DL.dNil, DL.dCons, DL.dTup, DL.dLst, DL.dDK, DL.dFz, DL.dCallL, DL.dCallP, DL.dCallN, DL.dCallT, DL.dCallTN, DL.dMake, DL.dProp, DL.dMeth, DL.dFmt, DL.dJs, DL.look, DL.lookL, DL.frz, DL.frzL, DL.startD, DL.startT, DL.sSeq, DL.sIf, DL.sRet, DL.sRetNew, DL.sRetN, DL.sAsg, DL.sNew, DL.sDrop, DL.sNext, DL.sPar, DL.sFor, DL.dSet, DL.endsP, DL.endsN, DL.endsT, DL.endsTN, DL.SV.toD, DL.Cell.toD, DL.isTy_str, DL.ixD_lst, DL.ixD_tup, DL.ixD_str, DL.ixD_dKs, DL.ixD_dKi, DL.inG_dKs, DL.inG_sign, DL.eqG_int, DL.eqG_str, DL.eqG_bl, DL.addD_int, DL.addD_str, DL.addD_lst, DL.addD_tup, DL.intD_int, DL.cmpD_int, DL.cmpD_str, DL.negD, DL.isNG1, DL.isN, DL.isiG, DL.isD, DL.isAnyG, DL.isAny, DL.isInsG, DL.lenG_str, DL.lenG_lst, DL.lenG_tup, DL.lenG_dK, DL.lenG_scr, DL.intG_int, DL.intG_bl, DL.intG_str, DL.strG, DL.absG, DL.two, DL.listG2_dK, DL.listG2_lst, DL.listG2_tup, DL.listG2_scr, DL.tupleG_lst, DL.tupleG_tup, DL.allG, DL.dSlice, DL.dNo, DL.dPart, DL.cutD_str, DL.cutD_lst, DL.cutD_tup, DL.dGNil, DL.dGCons, DL.dTupT, DL.dIter, DL.dRange1, DL.dRange2, DL.atI_0, DL.atI_1, DL.atI_2, DL.atI_3, DL.atI_4, DL.hotAt, DL.putAt, DL.SV.put, DL.dAppend, DL.dExtend, DL.sStore, DL.storeD, DL.sFldD, DL.putFD, DL.dFld, DL.splitG, DL.partitionG, DL.startsG, DL.joinG, DL.dClear, List.getElem?_cons_zero, List.getElem?_cons_succ, List.set_cons_zero, List.set_cons_succ, List.length_cons, List.length_nil, List.map_cons, List.map_nil, List.replicate_succ, List.replicate_zero, List.nil_append, List.cons_append, Nat.reduceAdd, Nat.reduceSub, Bool.bne_false, Bool.bne_true, Bool.not_true, Bool.not_false, decide_eq_true_eq, Bool.false_eq_true, reduceIte, and_true, true_and, if_true, if_false, decide_true, decide_false, cpow50, Int.reduceToNat, Int.reducePow, e1, e2, d1]
  refine ⟨by decide, by decide, by decide, by decide, by decide, by decide, by decide, ?_⟩
  obtain ⟨b1, b2⟩ := bots_rng (g := g) hk0 hk1
  subst hF
  exact ⟨_, ⟨_, _, tops_rng hg0 hg1 hk0 hk1, b1, b2, rfl, rfl⟩, rfl, rfl⟩
def alpha : Str := Str.ofString "abcdefghijklmnopqrstuvwxyz"
theorem alpha_at {k : Int} (h0 : 0 ≤ k) (h1 : k < 26) : atI alpha.cps.toList k = some (97 + k.toNat) := by
  refine atI_of k.toNat (by omega) ?_
  show (tl alpha)[k.toNat]? = _
  unfold alpha
  rw [tl_small, List.getElem?_range' (by omega)]
  simp
theorem steps_at {k : Int} (h0 : 0 ≤ k) (h1 : k < 6) : atI [D.int 1, .int 3, .int 5, .int 7, .int 9, .int 11] k = some (.int (1 + 2 * k)) := by
  obtain z | z | z | z | z | z : k = 0 ∨ k = 1 ∨ k = 2 ∨ k = 3 ∨ k = 4 ∨ k = 5 := by omega
  all_goals subst z; rfl
def rowL (a b c : Int) : List Str := (List.range (1 + c).toNat).map fun k => mk [lettersAt a (1 + 2 * b) k]
theorem rowsOf_eq (t : Tape) (m : Int) : rowsOf t m = (Txt.join Str.empty (sortS (rowL (pick t 26).1 (pick (pick t 26).2 6).1 (pick (pick (pick t 26).2 6).2 m).1)), (pick (pick (pick t 26).2 6).2 m).2) := rfl
theorem strs_one {l : List Str} (h : ∀ x ∈ l, x.length = 1) : (l.map (·.length)).sum = l.length := by
  induction l with
  | nil => rfl
  | cons a l ih =>
    rw [List.map_cons, List.sum_cons, ih fun x hx => h x (List.mem_cons_of_mem _ hx), h a List.mem_cons_self, List.length_cons]
    omega
theorem h__law_rows : ∀ c ds r c', M__law_rows c ds r c' → t__law_rows (endsT r c') (startT N__law_rows.length c ds) := by
  rintro _ _ _ _ ⟨t, m, ok, tu, m1, m4, rfl, rfl, rfl, rfl⟩
  have p1 := pick_ok (s := 26) ok (by decide)
  have p2 := pick_ok (s := 6) p1.ok (by decide)
  have p3 := pick_ok (s := m) p2.ok (by omega)
  have hF := rowsOf_eq t m
  generalize rowsOf t m = F at hF ⊢
  have a0 := p1.lo
  have a1 := p1.hi
  have b0 := p2.lo
  have b1 := p2.hi
  have c0 := p3.lo
  have c1 := p3.hi
  have t1 := p1.turn
  have t2 := p2.turn
  have t3 := p3.turn
  show t__law_rows (endsT (.str F.1) (.lst (tapeL F.2))) [some (.brw 0 (.lst (tapeL t))), some (.imm (.int m)), none, none, none, none]
  unfold t__law_rows
  simp only [DL.dVar, DL.dC, DL.dBin, DL.dUn, DL.dTest, DL.dIf, DL.dAnd, DL.dOr, DL.dNot, DL.dAndV, DL.dOrV, DL.dNotV, DL.dChain, DL.dNil, DL.dCons, DL.dTup, DL.dLst, DL.dDK, DL.dFz, DL.dCallL, DL.dCallP, DL.dCallN, DL.dCallT, DL.dCallTN, DL.dMake, DL.dProp, DL.dMeth, DL.dFmt, DL.dJs, DL.look, DL.lookL, DL.frz, DL.frzL, DL.startD, DL.startT, DL.sSeq, DL.sIf, DL.sRet, DL.sRetNew, DL.sRetN, DL.sAsg, DL.sNew, DL.sDrop, DL.sNext, DL.sPar, DL.sFor, DL.dSet, DL.endsP, DL.endsN, DL.endsT, DL.endsTN, DL.SV.toD, DL.Cell.toD, DL.isTy_str, DL.ixD_lst, DL.ixD_tup, DL.ixD_str, DL.ixD_dKs, DL.ixD_dKi, DL.inG_dKs, DL.inG_sign, DL.eqG_int, DL.eqG_str, DL.eqG_bl, DL.addD_int, DL.addD_str, DL.addD_lst, DL.addD_tup, DL.intD_int, DL.cmpD_int, DL.cmpD_str, DL.negD, DL.isNG1, DL.isN, DL.isiG, DL.isD, DL.isAnyG, DL.isAny, DL.isInsG, DL.lenG_str, DL.lenG_lst, DL.lenG_tup, DL.lenG_dK, DL.lenG_scr, DL.intG_int, DL.intG_bl, DL.intG_str, DL.strG, DL.absG, DL.two, DL.listG2_dK, DL.listG2_lst, DL.listG2_tup, DL.listG2_scr, DL.tupleG_lst, DL.tupleG_tup, DL.allG, DL.dSlice, DL.dNo, DL.dPart, DL.cutD_str, DL.cutD_lst, DL.cutD_tup, DL.dGNil, DL.dGCons, DL.dTupT, DL.dIter, DL.dRange1, DL.dRange2, DL.atI_0, DL.atI_1, DL.atI_2, DL.atI_3, DL.atI_4, DL.hotAt, DL.putAt, DL.SV.put, DL.dAppend, DL.dExtend, DL.sStore, DL.storeD, DL.sFldD, DL.putFD, DL.dFld, DL.splitG, DL.partitionG, DL.startsG, DL.joinG, DL.dClear, List.getElem?_cons_zero, List.getElem?_cons_succ, List.set_cons_zero, List.set_cons_succ, List.length_cons, List.length_nil, List.map_cons, List.map_nil, List.replicate_succ, List.replicate_zero, List.nil_append, List.cons_append, Nat.reduceAdd, Nat.reduceSub, Bool.bne_false, Bool.bne_true, Bool.not_true, Bool.not_false, decide_eq_true_eq, Bool.false_eq_true, reduceIte, and_true, true_and, if_true, if_false, decide_true, decide_false]
  refine ⟨_, _, ⟨t, 26, ok, by omega, by decide, by decide, rfl, rfl, rfl, rfl⟩, ?_⟩
  refine ⟨by decide, _, _, ⟨_, 6, p1.ok, by omega, by decide, by decide, rfl, rfl, rfl, rfl⟩, ?_⟩
  generalize (pick t 26).1 = a at *
  generalize (pick (pick t 26).2 6).1 = b at *
  simp only [DL.dVar, DL.dC, DL.dBin, DL.dUn, DL.dTest, DL.dIf, DL.dAnd, DL.dOr, DL.dNot, DL.dAndV, DL.dOrV, DL.dNotV, DL.dChain, DL.dNil, DL.dCons, DL.dTup, DL.dLst, DL.dDK, DL.dFz, DL.dCallL, DL.dCallP, DL.dCallN, DL.dCallT, DL.dCallTN, DL.dMake, DL.dProp, DL.dMeth, DL.dFmt, DL.dJs, DL.look, DL.lookL, DL.frz, DL.frzL, DL.startD, DL.startT, DL.sSeq, DL.sIf, DL.sRet, DL.sRetNew, DL.sRetN, DL.sAsg, DL.sNew, DL.sDrop, DL.sNext, DL.sPar, DL.sFor, DL.dSet, DL.endsP, DL.endsN, DL.endsT, DL.endsTN, DL.SV.toD, DL.Cell.toD, DL.isTy_str, DL.ixD_lst, DL.ixD_tup, DL.ixD_str, DL.ixD_dKs, DL.ixD_dKi, DL.inG_dKs, DL.inG_sign, DL.eqG_int, DL.eqG_str, DL.eqG_bl, DL.addD_int, DL.addD_str, DL.addD_lst, DL.addD_tup, DL.intD_int, DL.cmpD_int, DL.cmpD_str, DL.negD, DL.isNG1, DL.isN, DL.isiG, DL.isD, DL.isAnyG, DL.isAny, DL.isInsG, DL.lenG_str, DL.lenG_lst, DL.lenG_tup, DL.lenG_dK, DL.lenG_scr, DL.intG_int, DL.intG_bl, DL.intG_str, DL.strG, DL.absG, DL.two, DL.listG2_dK, DL.listG2_lst, DL.listG2_tup, DL.listG2_scr, DL.tupleG_lst, DL.tupleG_tup, DL.allG, DL.dSlice, DL.dNo, DL.dPart, DL.cutD_str, DL.cutD_lst, DL.cutD_tup, DL.dGNil, DL.dGCons, DL.dTupT, DL.dIter, DL.dRange1, DL.dRange2, DL.atI_0, DL.atI_1, DL.atI_2, DL.atI_3, DL.atI_4, DL.hotAt, DL.putAt, DL.SV.put, DL.dAppend, DL.dExtend, DL.sStore, DL.storeD, DL.sFldD, DL.putFD, DL.dFld, DL.splitG, DL.partitionG, DL.startsG, DL.joinG, DL.dClear, List.getElem?_cons_zero, List.getElem?_cons_succ, List.set_cons_zero, List.set_cons_succ, List.length_cons, List.length_nil, List.map_cons, List.map_nil, List.replicate_succ, List.replicate_zero, List.nil_append, List.cons_append, Nat.reduceAdd, Nat.reduceSub, Bool.bne_false, Bool.bne_true, Bool.not_true, Bool.not_false, decide_eq_true_eq, Bool.false_eq_true, reduceIte, and_true, true_and, if_true, if_false, decide_true, decide_false, steps_at b0 b1]
  refine ⟨_, _, ⟨_, m, p2.ok, by omega, by omega, by omega, rfl, rfl, rfl, rfl⟩, ?_⟩
  generalize (pick (pick (pick t 26).2 6).2 m).1 = c at *
  simp only [DL.dVar, DL.dC, DL.dBin, DL.dUn, DL.dTest, DL.dIf, DL.dAnd, DL.dOr, DL.dNot, DL.dAndV, DL.dOrV, DL.dNotV, DL.dChain, DL.dNil, DL.dCons, DL.dTup, DL.dLst, DL.dDK, DL.dFz, DL.dCallL, DL.dCallP, DL.dCallN, DL.dCallT, DL.dCallTN, DL.dMake, DL.dProp, DL.dMeth, DL.dFmt, DL.dJs, DL.look, DL.lookL, DL.frz, DL.frzL, DL.startD, DL.startT, DL.sSeq, DL.sIf, DL.sRet, DL.sRetNew, DL.sRetN, DL.sAsg, DL.sNew, DL.sDrop, DL.sNext, DL.sPar, DL.sFor, DL.dSet, DL.endsP, DL.endsN, DL.endsT, DL.endsTN, DL.SV.toD, DL.Cell.toD, DL.isTy_str, DL.ixD_lst, DL.ixD_tup, DL.ixD_str, DL.ixD_dKs, DL.ixD_dKi, DL.inG_dKs, DL.inG_sign, DL.eqG_int, DL.eqG_str, DL.eqG_bl, DL.addD_int, DL.addD_str, DL.addD_lst, DL.addD_tup, DL.intD_int, DL.cmpD_int, DL.cmpD_str, DL.negD, DL.isNG1, DL.isN, DL.isiG, DL.isD, DL.isAnyG, DL.isAny, DL.isInsG, DL.lenG_str, DL.lenG_lst, DL.lenG_tup, DL.lenG_dK, DL.lenG_scr, DL.intG_int, DL.intG_bl, DL.intG_str, DL.strG, DL.absG, DL.two, DL.listG2_dK, DL.listG2_lst, DL.listG2_tup, DL.listG2_scr, DL.tupleG_lst, DL.tupleG_tup, DL.allG, DL.dSlice, DL.dNo, DL.dPart, DL.cutD_str, DL.cutD_lst, DL.cutD_tup, DL.dGNil, DL.dGCons, DL.dTupT, DL.dIter, DL.dRange1, DL.dRange2, DL.atI_0, DL.atI_1, DL.atI_2, DL.atI_3, DL.atI_4, DL.hotAt, DL.putAt, DL.SV.put, DL.dAppend, DL.dExtend, DL.sStore, DL.storeD, DL.sFldD, DL.putFD, DL.dFld, DL.splitG, DL.partitionG, DL.startsG, DL.joinG, DL.dClear, List.getElem?_cons_zero, List.getElem?_cons_succ, List.set_cons_zero, List.set_cons_succ, List.length_cons, List.length_nil, List.map_cons, List.map_nil, List.replicate_succ, List.replicate_zero, List.nil_append, List.cons_append, Nat.reduceAdd, Nat.reduceSub, Bool.bne_false, Bool.bne_true, Bool.not_true, Bool.not_false, decide_eq_true_eq, Bool.false_eq_true, reduceIte, and_true, true_and, if_true, if_false, decide_true, decide_false, dLc, rangeD]
  refine ⟨by omega, ?_⟩
  refine lcGo_map (f := fun d => match d with | .int k => .str (mk [97 + ((a + (1 + 2 * b) * k) % 26).toNat]) | _ => d) rfl _ _ (fun d hd Q2 Q3 h3 => ?_) ?_ ?_
  · obtain ⟨k, hk, e⟩ := List.mem_map.mp hd
    subst e
    have hat := alpha_at (k := (a + (1 + 2 * b) * (0 + (k : Int))) % 26) (Int.emod_nonneg _ (by decide)) (Int.emod_lt_of_pos _ (by decide))
    have hcm : ∀ j, CM (1 + 2 * b) j := fun j => cm_l ⟨by omega, by omega⟩
    have hal : (Str.ofString "abcdefghijklmnopqrstuvwxyz").length ≤ sizeLine := by
      rw [len_tl, tl_small]; simp; decide
    unfold alpha at hat
    simp only [DL.dVar, DL.dC, DL.dBin, DL.dUn, DL.dTest, DL.dIf, DL.dAnd, DL.dOr, DL.dNot, DL.dAndV, DL.dOrV, DL.dNotV, DL.dChain, DL.dNil, DL.dCons, DL.dTup, DL.dLst, DL.dDK, DL.dFz, DL.dCallL, DL.dCallP, DL.dCallN, DL.dCallT, DL.dCallTN, DL.dMake, DL.dProp, DL.dMeth, DL.dFmt, DL.dJs, DL.look, DL.lookL, DL.frz, DL.frzL, DL.startD, DL.startT, DL.sSeq, DL.sIf, DL.sRet, DL.sRetNew, DL.sRetN, DL.sAsg, DL.sNew, DL.sDrop, DL.sNext, DL.sPar, DL.sFor, DL.dSet, DL.endsP, DL.endsN, DL.endsT, DL.endsTN, DL.SV.toD, DL.Cell.toD, DL.isTy_str, DL.ixD_lst, DL.ixD_tup, DL.ixD_str, DL.ixD_dKs, DL.ixD_dKi, DL.inG_dKs, DL.inG_sign, DL.eqG_int, DL.eqG_str, DL.eqG_bl, DL.addD_int, DL.addD_str, DL.addD_lst, DL.addD_tup, DL.intD_int, DL.cmpD_int, DL.cmpD_str, DL.negD, DL.isNG1, DL.isN, DL.isiG, DL.isD, DL.isAnyG, DL.isAny, DL.isInsG, DL.lenG_str, DL.lenG_lst, DL.lenG_tup, DL.lenG_dK, DL.lenG_scr, DL.intG_int, DL.intG_bl, DL.intG_str, DL.strG, DL.absG, DL.two, DL.listG2_dK, DL.listG2_lst, DL.listG2_tup, DL.listG2_scr, DL.tupleG_lst, DL.tupleG_tup, DL.allG, DL.dSlice, DL.dNo, DL.dPart, DL.cutD_str, DL.cutD_lst, DL.cutD_tup, DL.dGNil, DL.dGCons, DL.dTupT, DL.dIter, DL.dRange1, DL.dRange2, DL.atI_0, DL.atI_1, DL.atI_2, DL.atI_3, DL.atI_4, DL.hotAt, DL.putAt, DL.SV.put, DL.dAppend, DL.dExtend, DL.sStore, DL.storeD, DL.sFldD, DL.putFD, DL.dFld, DL.splitG, DL.partitionG, DL.startsG, DL.joinG, DL.dClear, List.getElem?_cons_zero, List.getElem?_cons_succ, List.set_cons_zero, List.set_cons_succ, List.length_cons, List.length_nil, List.map_cons, List.map_nil, List.replicate_succ, List.replicate_zero, List.nil_append, List.cons_append, Nat.reduceAdd, Nat.reduceSub, Bool.bne_false, Bool.bne_true, Bool.not_true, Bool.not_false, decide_eq_true_eq, Bool.false_eq_true, reduceIte, and_true, true_and, if_true, if_false, decide_true, decide_false, dYes, wipeE, back, hcm, hat, hal]
    exact ⟨by decide, h3⟩
  · rw [List.length_map, List.length_range, List.length_nil]
    exact fit (by omega)
  · have e : ((List.range (1 + c).toNat).map fun (i : Nat) => D.int (0 + (i : Int))).map (fun d => match d with | .int k => .str (mk [97 + ((a + (1 + 2 * b) * k) % 26).toNat]) | _ => d) = (rowL a b c).map D.str := by
      unfold rowL lettersAt
      rw [List.map_map, List.map_map]
      refine List.map_congr_left fun k hk => ?_
      simp
    rw [List.nil_append, e]
    have hl : (rowL a b c).length ≤ 4 := by
      unfold rowL; rw [List.length_map, List.length_range]; omega
    have hs : (sortS (rowL a b c)).length ≤ 4 := by rw [(sortS_perm _).length_eq]; exact hl
    have h1 : ∀ x ∈ sortS (rowL a b c), x.length = 1 := fun x hx => by
      have := (sortS_perm _).mem_iff.mp hx
      unfold rowL at this
      obtain ⟨k, _, e⟩ := List.mem_map.mp this
      subst e; rfl
    simp only [DL.dVar, DL.dC, DL.dBin, DL.dUn, DL.dTest, DL.dIf, DL.dAnd, DL.dOr, DL.dNot, DL.dAndV, DL.dOrV, DL.dNotV, DL.dChain, DL.dNil, DL.dCons, DL.dTup, DL.dLst, DL.dDK, DL.dFz, DL.dCallL, DL.dCallP, DL.dCallN, DL.dCallT, DL.dCallTN, DL.dMake, DL.dProp, DL.dMeth, DL.dFmt, DL.dJs, DL.look, DL.lookL, DL.frz, DL.frzL, DL.startD, DL.startT, DL.sSeq, DL.sIf, DL.sRet, DL.sRetNew, DL.sRetN, DL.sAsg, DL.sNew, DL.sDrop, DL.sNext, DL.sPar, DL.sFor, DL.dSet, DL.endsP, DL.endsN, DL.endsT, DL.endsTN, DL.SV.toD, DL.Cell.toD, DL.isTy_str, DL.ixD_lst, DL.ixD_tup, DL.ixD_str, DL.ixD_dKs, DL.ixD_dKi, DL.inG_dKs, DL.inG_sign, DL.eqG_int, DL.eqG_str, DL.eqG_bl, DL.addD_int, DL.addD_str, DL.addD_lst, DL.addD_tup, DL.intD_int, DL.cmpD_int, DL.cmpD_str, DL.negD, DL.isNG1, DL.isN, DL.isiG, DL.isD, DL.isAnyG, DL.isAny, DL.isInsG, DL.lenG_str, DL.lenG_lst, DL.lenG_tup, DL.lenG_dK, DL.lenG_scr, DL.intG_int, DL.intG_bl, DL.intG_str, DL.strG, DL.absG, DL.two, DL.listG2_dK, DL.listG2_lst, DL.listG2_tup, DL.listG2_scr, DL.tupleG_lst, DL.tupleG_tup, DL.allG, DL.dSlice, DL.dNo, DL.dPart, DL.cutD_str, DL.cutD_lst, DL.cutD_tup, DL.dGNil, DL.dGCons, DL.dTupT, DL.dIter, DL.dRange1, DL.dRange2, DL.atI_0, DL.atI_1, DL.atI_2, DL.atI_3, DL.atI_4, DL.hotAt, DL.putAt, DL.SV.put, DL.dAppend, DL.dExtend, DL.sStore, DL.storeD, DL.sFldD, DL.putFD, DL.dFld, DL.splitG, DL.partitionG, DL.startsG, DL.joinG, DL.dClear, List.getElem?_cons_zero, List.getElem?_cons_succ, List.set_cons_zero, List.set_cons_succ, List.length_cons, List.length_nil, List.map_cons, List.map_nil, List.replicate_succ, List.replicate_zero, List.nil_append, List.cons_append, Nat.reduceAdd, Nat.reduceSub, Bool.bne_false, Bool.bne_true, Bool.not_true, Bool.not_false, decide_eq_true_eq, Bool.false_eq_true, reduceIte, and_true, true_and, if_true, if_false, decide_true, decide_false, sortedG2, sortedG, strsD_map, List.length_map]
    subst hF
    refine ⟨by omega, ?_, rfl, rfl⟩
    rw [strs_one h1, show (Str.ofString "").length = 0 from rfl]
    omega
end K86

set_option Elab.async false
set_option linter.all false
set_option maxRecDepth 100000
set_option maxHeartbeats 2000000
namespace K86
open PySem L2 DL TL
variable {r : Str} {w : Nat} {t : Tab}
/-- a slot that holds the list l -/
def Holds (s : Option SV) (l : List D) : Prop := s = some (.own (.lst l)) ∨ s = some (.imm (.lst l))
def fnd (r : Str) (w k : Nat) : List Str := (List.range k).flatMap fun j => if j + 1 = w then codesS r (j + 1) else (codesS r (j + 1)).map hat
theorem fnd_succ (r : Str) (w k : Nat) : fnd r w (k + 1) = fnd r w k ++ (if k + 1 = w then codesS r (k + 1) else (codesS r (k + 1)).map hat) := by
  unfold fnd; rw [List.range_succ, List.flatMap_append]; simp
theorem fnd_perm (s : Sz r w) : (fnd r w w).Perm (preNames r w) := by
  obtain ⟨k, rfl⟩ : ∃ k, w = k + 1 := ⟨w - 1, by have := s.w1; omega⟩
  rw [fnd_succ, if_pos rfl]
  unfold preNames
  have e : fnd r (k + 1) k = (List.range (k + 1 - 1)).flatMap fun j => (codesS r (j + 1)).map hat := by
    unfold fnd
    rw [Nat.add_sub_cancel]
    rw [List.flatMap_def, List.flatMap_def]
    congr 1
    refine List.map_congr_left fun j hj => ?_
    have := List.mem_range.mp hj
    rw [if_neg (by omega)]
  rw [e]
  exact List.perm_append_comm
theorem sort_fnd (s : Sz r w) : sortS (fnd r w w) = names r w := List.Perm.eq_of_pairwise (fun a b _ _ h1 h2 => leS_anti h1 h2) (sortS_pw _) (names_sorted r w) ((sortS_perm _).trans ((fnd_perm s).trans (names_perm r w).symm))
theorem fnd_len (h : (tl r).length ≤ 4) : ∀ k, k ≤ 3 → (fnd r w k).length ≤ 256 * k
  | 0, _ => by simp [fnd]
  | k + 1, hk => by
    have ih := fnd_len h k (by omega)
    have := codesS_len r (k + 1) h (by omega)
    rw [fnd_succ, List.length_append]
    split
    · omega
    · rw [List.length_map]; omega
theorem inner_loop {D' : DEnds} {n k : Nat} {s2 s3 s4 s7 : Option SV} (hr : (tl r).length ≤ 4) (hk : k ≤ 3) (h7 : s7 = none) : ∀ (ws acc : List Str) (s5 v6 : Option SV), Holds s5 (acc.map .str) → (∀ c ∈ ws, (tl c).length = k) →
    acc ++ ws.flatMap (fun c => (tl r).map fun a => c ++ (⟨#[a]⟩ : Str)) = codesS r (k + 1) →
    (∀ s5 v6, Holds s5 ((codesS r (k + 1)).map .str) → (∀ s, v6 = some s → ∃ d, s = .imm d) → D'.nx [some (.imm (.str r)), some (.imm (.int n)), s2, s3, s4, s5, v6, s7]) → (∀ s, v6 = some s → ∃ d, s = .imm d) →
    forGo (dSet 6) (sAsg (dBin addD (dVar 5) (dFz (dLc (dIter (dVar 0)) [7] (dSet 7) dYes (dBin addD (dVar 6) (dVar 7))))) (dSet 5)) (ws.map .str) D' [some (.imm (.str r)), some (.imm (.int n)), s2, s3, s4, s5, v6, s7] := by
  subst h7
  intro ws
  induction ws with
  | nil =>
    intro acc s5 v6 h5 _ e h hv
    rw [List.flatMap_nil, List.append_nil] at e
    subst e
    exact h _ _ h5 hv
  | cons c ws ih =>
    intro acc s5 v6 h5 hc e h hv
    have hz := codesS_len r (k + 1) hr (by omega)
    have hacc : acc.length + (tl r).length ≤ 256 := by
      rw [← e, List.flatMap_cons, List.length_append, List.length_append, List.length_map] at hz; omega
    have hacc' : acc.length + r.cps.toList.length ≤ 256 := hacc
    simp only [List.map_cons]
    unfold forGo
    have main : ∀ s5, Holds s5 (acc.map .str) → sAsg (dBin addD (dVar 5) (dFz (dLc (dIter (dVar 0)) [7] (dSet 7) dYes (dBin addD (dVar 6) (dVar 7))))) (dSet 5) { D' with nx := fun ρ2 => forGo (dSet 6) (sAsg (dBin addD (dVar 5) (dFz (dLc (dIter (dVar 0)) [7] (dSet 7) dYes (dBin addD (dVar 6) (dVar 7))))) (dSet 5)) (ws.map .str) D' ρ2, ct := fun ρ2 => forGo (dSet 6) (sAsg (dBin addD (dVar 5) (dFz (dLc (dIter (dVar 0)) [7] (dSet 7) dYes (dBin addD (dVar 6) (dVar 7))))) (dSet 5)) (ws.map .str) D' ρ2, bk := D'.nx } [some (.imm (.str r)), some (.imm (.int n)), s2, s3, s4, s5, some (.imm (.str c)), none] := by
      intro s5 h5
      rcases h5 with rfl | rfl
      all_goals
        simp only [DL.dVar, DL.dC, DL.dBin, DL.dUn, DL.dTest, DL.dIf, DL.dAnd, DL.dOr, DL.dNot, DL.dAndV, DL.dOrV, DL.dNotV, DL.dChain, DL.dNil, DL.dCons, DL.dTup, DL.dLst, DL.dDK, DL.dFz, DL.dCallL, DL.dCallP, DL.dCallN, DL.dCallT, DL.dCallTN, DL.dMake, DL.dProp, DL.dMeth, DL.dFmt, DL.dJs, DL.look, DL.lookL, DL.frz, DL.frzL, DL.startD, DL.startT, DL.sSeq, DL.sIf, DL.sRet, DL.sRetNew, DL.sRetN, DL.sAsg, DL.sNew, DL.sDrop, DL.sNext, DL.sPar, DL.sFor, DL.dSet, DL.endsP, DL.endsN, DL.endsT, DL.endsTN, DL.SV.toD, DL.Cell.toD, DL.isTy_str, DL.ixD_lst, DL.ixD_tup, DL.ixD_str, DL.ixD_dKs, DL.ixD_dKi, DL.inG_dKs, DL.inG_sign, DL.eqG_int, DL.eqG_str, DL.eqG_bl, DL.addD_int, DL.addD_str, DL.addD_lst, DL.addD_tup, DL.intD_int, DL.cmpD_int, DL.cmpD_str, DL.negD, DL.isNG1, DL.isN, DL.isiG, DL.isD, DL.isAnyG, DL.isAny, DL.isInsG, DL.lenG_str, DL.lenG_lst, DL.lenG_tup, DL.lenG_dK, DL.lenG_scr, DL.intG_int, DL.intG_bl, DL.intG_str, DL.strG, DL.absG, DL.two, DL.listG2_dK, DL.listG2_lst, DL.listG2_tup, DL.listG2_scr, DL.tupleG_lst, DL.tupleG_tup, DL.allG, DL.dSlice, DL.dNo, DL.dPart, DL.cutD_str, DL.cutD_lst, DL.cutD_tup, DL.dGNil, DL.dGCons, DL.dTupT, DL.dIter, DL.dRange1, DL.dRange2, DL.atI_0, DL.atI_1, DL.atI_2, DL.atI_3, DL.atI_4, DL.hotAt, DL.putAt, DL.SV.put, DL.dAppend, DL.dExtend, DL.sStore, DL.storeD, DL.sFldD, DL.putFD, DL.dFld, DL.splitG, DL.partitionG, DL.startsG, DL.joinG, DL.dClear, List.getElem?_cons_zero, List.getElem?_cons_succ, List.set_cons_zero, List.set_cons_succ, List.length_cons, List.length_nil, List.map_cons, List.map_nil, List.replicate_succ, List.replicate_zero, List.nil_append, List.cons_append, Nat.reduceAdd, Nat.reduceSub, Bool.bne_false, Bool.bne_true, Bool.not_true, Bool.not_false, decide_eq_true_eq, Bool.false_eq_true, reduceIte, and_true, true_and, if_true, if_false, decide_true, decide_false, dLc, DL.signs]
        refine lcGo_map (f := fun d => match d with | .str a => .str (c ++ a) | _ => d) rfl _ _ (fun d hd Q2 Q3 h3 => ?_) ?_ ?_
        · obtain ⟨a, ha, e⟩ := List.mem_map.mp hd
          subst e
          simp only [DL.dVar, DL.dC, DL.dBin, DL.dUn, DL.dTest, DL.dIf, DL.dAnd, DL.dOr, DL.dNot, DL.dAndV, DL.dOrV, DL.dNotV, DL.dChain, DL.dNil, DL.dCons, DL.dTup, DL.dLst, DL.dDK, DL.dFz, DL.dCallL, DL.dCallP, DL.dCallN, DL.dCallT, DL.dCallTN, DL.dMake, DL.dProp, DL.dMeth, DL.dFmt, DL.dJs, DL.look, DL.lookL, DL.frz, DL.frzL, DL.startD, DL.startT, DL.sSeq, DL.sIf, DL.sRet, DL.sRetNew, DL.sRetN, DL.sAsg, DL.sNew, DL.sDrop, DL.sNext, DL.sPar, DL.sFor, DL.dSet, DL.endsP, DL.endsN, DL.endsT, DL.endsTN, DL.SV.toD, DL.Cell.toD, DL.isTy_str, DL.ixD_lst, DL.ixD_tup, DL.ixD_str, DL.ixD_dKs, DL.ixD_dKi, DL.inG_dKs, DL.inG_sign, DL.eqG_int, DL.eqG_str, DL.eqG_bl, DL.addD_int, DL.addD_str, DL.addD_lst, DL.addD_tup, DL.intD_int, DL.cmpD_int, DL.cmpD_str, DL.negD, DL.isNG1, DL.isN, DL.isiG, DL.isD, DL.isAnyG, DL.isAny, DL.isInsG, DL.lenG_str, DL.lenG_lst, DL.lenG_tup, DL.lenG_dK, DL.lenG_scr, DL.intG_int, DL.intG_bl, DL.intG_str, DL.strG, DL.absG, DL.two, DL.listG2_dK, DL.listG2_lst, DL.listG2_tup, DL.listG2_scr, DL.tupleG_lst, DL.tupleG_tup, DL.allG, DL.dSlice, DL.dNo, DL.dPart, DL.cutD_str, DL.cutD_lst, DL.cutD_tup, DL.dGNil, DL.dGCons, DL.dTupT, DL.dIter, DL.dRange1, DL.dRange2, DL.atI_0, DL.atI_1, DL.atI_2, DL.atI_3, DL.atI_4, DL.hotAt, DL.putAt, DL.SV.put, DL.dAppend, DL.dExtend, DL.sStore, DL.storeD, DL.sFldD, DL.putFD, DL.dFld, DL.splitG, DL.partitionG, DL.startsG, DL.joinG, DL.dClear, List.getElem?_cons_zero, List.getElem?_cons_succ, List.set_cons_zero, List.set_cons_succ, List.length_cons, List.length_nil, List.map_cons, List.map_nil, List.replicate_succ, List.replicate_zero, List.nil_append, List.cons_append, Nat.reduceAdd, Nat.reduceSub, Bool.bne_false, Bool.bne_true, Bool.not_true, Bool.not_false, decide_eq_true_eq, Bool.false_eq_true, reduceIte, and_true, true_and, if_true, if_false, decide_true, decide_false, dYes, wipeE, back]
          refine ⟨fit ?_, h3⟩
          rw [len_tl, hc c List.mem_cons_self]
          show k + 1 ≤ 1000
          omega
        · rw [List.length_map, List.length_nil]; exact fit (by omega)
        · rw [List.nil_append, List.map_map]
          simp only [DL.dVar, DL.dC, DL.dBin, DL.dUn, DL.dTest, DL.dIf, DL.dAnd, DL.dOr, DL.dNot, DL.dAndV, DL.dOrV, DL.dNotV, DL.dChain, DL.dNil, DL.dCons, DL.dTup, DL.dLst, DL.dDK, DL.dFz, DL.dCallL, DL.dCallP, DL.dCallN, DL.dCallT, DL.dCallTN, DL.dMake, DL.dProp, DL.dMeth, DL.dFmt, DL.dJs, DL.look, DL.lookL, DL.frz, DL.frzL, DL.startD, DL.startT, DL.sSeq, DL.sIf, DL.sRet, DL.sRetNew, DL.sRetN, DL.sAsg, DL.sNew, DL.sDrop, DL.sNext, DL.sPar, DL.sFor, DL.dSet, DL.endsP, DL.endsN, DL.endsT, DL.endsTN, DL.SV.toD, DL.Cell.toD, DL.isTy_str, DL.ixD_lst, DL.ixD_tup, DL.ixD_str, DL.ixD_dKs, DL.ixD_dKi, DL.inG_dKs, DL.inG_sign, DL.eqG_int, DL.eqG_str, DL.eqG_bl, DL.addD_int, DL.addD_str, DL.addD_lst, DL.addD_tup, DL.intD_int, DL.cmpD_int, DL.cmpD_str, DL.negD, DL.isNG1, DL.isN, DL.isiG, DL.isD, DL.isAnyG, DL.isAny, DL.isInsG, DL.lenG_str, DL.lenG_lst, DL.lenG_tup, DL.lenG_dK, DL.lenG_scr, DL.intG_int, DL.intG_bl, DL.intG_str, DL.strG, DL.absG, DL.two, DL.listG2_dK, DL.listG2_lst, DL.listG2_tup, DL.listG2_scr, DL.tupleG_lst, DL.tupleG_tup, DL.allG, DL.dSlice, DL.dNo, DL.dPart, DL.cutD_str, DL.cutD_lst, DL.cutD_tup, DL.dGNil, DL.dGCons, DL.dTupT, DL.dIter, DL.dRange1, DL.dRange2, DL.atI_0, DL.atI_1, DL.atI_2, DL.atI_3, DL.atI_4, DL.hotAt, DL.putAt, DL.SV.put, DL.dAppend, DL.dExtend, DL.sStore, DL.storeD, DL.sFldD, DL.putFD, DL.dFld, DL.splitG, DL.partitionG, DL.startsG, DL.joinG, DL.dClear, List.getElem?_cons_zero, List.getElem?_cons_succ, List.set_cons_zero, List.set_cons_succ, List.length_cons, List.length_nil, List.map_cons, List.map_nil, List.replicate_succ, List.replicate_zero, List.nil_append, List.cons_append, Nat.reduceAdd, Nat.reduceSub, Bool.bne_false, Bool.bne_true, Bool.not_true, Bool.not_false, decide_eq_true_eq, Bool.false_eq_true, reduceIte, and_true, true_and, if_true, if_false, decide_true, decide_false, List.length_map]
          refine ⟨fit (by omega), ?_⟩
          have e2 : acc.map D.str ++ (tl r).map ((fun d => match d with | .str a => D.str (c ++ a) | _ => d) ∘ fun c => D.str ⟨#[c]⟩) = (acc ++ (tl r).map fun a => c ++ (⟨#[a]⟩ : Str)).map D.str := by
            simp [Function.comp_def]
          rw [e2]
          exact ih _ _ _ (.inr rfl) (fun d hd => hc d (List.mem_cons_of_mem _ hd)) (by rw [← e, List.flatMap_cons, List.append_assoc]) h (fun s hs => ⟨_, (Option.some.inj hs).symm⟩)
    have := main s5 h5
    simp only [DL.dVar, DL.dC, DL.dBin, DL.dUn, DL.dTest, DL.dIf, DL.dAnd, DL.dOr, DL.dNot, DL.dAndV, DL.dOrV, DL.dNotV, DL.dChain, DL.dNil, DL.dCons, DL.dTup, DL.dLst, DL.dDK, DL.dFz, DL.dCallL, DL.dCallP, DL.dCallN, DL.dCallT, DL.dCallTN, DL.dMake, DL.dProp, DL.dMeth, DL.dFmt, DL.dJs, DL.look, DL.lookL, DL.frz, DL.frzL, DL.startD, DL.startT, DL.sSeq, DL.sIf, DL.sRet, DL.sRetNew, DL.sRetN, DL.sAsg, DL.sNew, DL.sDrop, DL.sNext, DL.sPar, DL.sFor, DL.dSet, DL.endsP, DL.endsN, DL.endsT, DL.endsTN, DL.SV.toD, DL.Cell.toD, DL.isTy_str, DL.ixD_lst, DL.ixD_tup, DL.ixD_str, DL.ixD_dKs, DL.ixD_dKi, DL.inG_dKs, DL.inG_sign, DL.eqG_int, DL.eqG_str, DL.eqG_bl, DL.addD_int, DL.addD_str, DL.addD_lst, DL.addD_tup, DL.intD_int, DL.cmpD_int, DL.cmpD_str, DL.negD, DL.isNG1, DL.isN, DL.isiG, DL.isD, DL.isAnyG, DL.isAny, DL.isInsG, DL.lenG_str, DL.lenG_lst, DL.lenG_tup, DL.lenG_dK, DL.lenG_scr, DL.intG_int, DL.intG_bl, DL.intG_str, DL.strG, DL.absG, DL.two, DL.listG2_dK, DL.listG2_lst, DL.listG2_tup, DL.listG2_scr, DL.tupleG_lst, DL.tupleG_tup, DL.allG, DL.dSlice, DL.dNo, DL.dPart, DL.cutD_str, DL.cutD_lst, DL.cutD_tup, DL.dGNil, DL.dGCons, DL.dTupT, DL.dIter, DL.dRange1, DL.dRange2, DL.atI_0, DL.atI_1, DL.atI_2, DL.atI_3, DL.atI_4, DL.hotAt, DL.putAt, DL.SV.put, DL.dAppend, DL.dExtend, DL.sStore, DL.storeD, DL.sFldD, DL.putFD, DL.dFld, DL.splitG, DL.partitionG, DL.startsG, DL.joinG, DL.dClear, List.getElem?_cons_zero, List.getElem?_cons_succ, List.set_cons_zero, List.set_cons_succ, List.length_cons, List.length_nil, List.map_cons, List.map_nil, List.replicate_succ, List.replicate_zero, List.nil_append, List.cons_append, Nat.reduceAdd, Nat.reduceSub, Bool.bne_false, Bool.bne_true, Bool.not_true, Bool.not_false, decide_eq_true_eq, Bool.false_eq_true, reduceIte, and_true, true_and, if_true, if_false, decide_true, decide_false]
    exact this
theorem outer_loop {D' : DEnds} (s : Sz r w) : ∀ (m k : Nat) (s2 s3 s4 s5 v6 : Option SV), k + m = w → Holds s2 ((codesS r k).map .str) → Holds s3 ((fnd r w k).map .str) → (∀ s, v6 = some s → ∃ d, s = .imm d) →
    (∀ s2 s3 s4 s5 v6, Holds s3 ((fnd r w w).map .str) → D'.nx [some (.imm (.str r)), some (.imm (.int w)), s2, s3, s4, s5, v6, none]) →
    forGo (dSet 4) (sSeq (sNew (dLst dNil) 5)
  (sSeq (sFor (dIter (dVar 2)) (dSet 6) (sAsg (dBin addD (dVar 5) (dFz (dLc (dIter (dVar 0)) [7] (dSet 7) dYes (dBin addD (dVar 6) (dVar 7))))) (dSet 5)))
  (sSeq (sAsg (dVar 5) (dSet 2))
  (sAsg (dBin addD (dVar 3) (dFz (dLc (dIter (dVar 2)) [6] (dSet 6) dYes (dBin (ixD NW) (dFz (dLst (dCons (dBin addD (dC (.str "^")) (dVar 6)) (dCons (dVar 6) dNil)))) (dCallL intG (dCons (dBin (eqG false) (dVar 4) (dVar 1)) dNil)))))) (dSet 3))))) ((List.range' k m).map fun (i : Nat) => .int (1 + (i : Int))) D'
      [some (.imm (.str r)), some (.imm (.int w)), s2, s3, s4, s5, v6, none] := by
  intro m
  induction m with
  | zero =>
    intro k s2 s3 s4 s5 v6 hk h2 h3 hv h
    have e : k = w := by omega
    subst e
    exact h _ _ _ _ _ h3
  | succ m ih =>
    intro k s2 s3 s4 s5 v6 hk h2 h3 hv h
    have hw := s.w3
    have hz := codesS_len r (k + 1) s.four (by omega)
    have hz2 := fnd_len (w := w) s.four k (by omega)
    have hht := len_1 tl_ht
    rw [List.range'_succ]
    simp only [List.map_cons]
    unfold forGo
    rcases h2 with rfl | rfl
    all_goals
      simp only [DL.dVar, DL.dC, DL.dBin, DL.dUn, DL.dTest, DL.dIf, DL.dAnd, DL.dOr, DL.dNot, DL.dAndV, DL.dOrV, DL.dNotV, DL.dChain, DL.dNil, DL.dCons, DL.dTup, DL.dLst, DL.dDK, DL.dFz, DL.dCallL, DL.dCallP, DL.dCallN, DL.dCallT, DL.dCallTN, DL.dMake, DL.dProp, DL.dMeth, DL.dFmt, DL.dJs, DL.look, DL.lookL, DL.frz, DL.frzL, DL.startD, DL.startT, DL.sSeq, DL.sIf, DL.sRet, DL.sRetNew, DL.sRetN, DL.sAsg, DL.sNew, DL.sDrop, DL.sNext, DL.sPar, DL.sFor, DL.dSet, DL.endsP, DL.endsN, DL.endsT, DL.endsTN, DL.SV.toD, DL.Cell.toD, DL.isTy_str, DL.ixD_lst, DL.ixD_tup, DL.ixD_str, DL.ixD_dKs, DL.ixD_dKi, DL.inG_dKs, DL.inG_sign, DL.eqG_int, DL.eqG_str, DL.eqG_bl, DL.addD_int, DL.addD_str, DL.addD_lst, DL.addD_tup, DL.intD_int, DL.cmpD_int, DL.cmpD_str, DL.negD, DL.isNG1, DL.isN, DL.isiG, DL.isD, DL.isAnyG, DL.isAny, DL.isInsG, DL.lenG_str, DL.lenG_lst, DL.lenG_tup, DL.lenG_dK, DL.lenG_scr, DL.intG_int, DL.intG_bl, DL.intG_str, DL.strG, DL.absG, DL.two, DL.listG2_dK, DL.listG2_lst, DL.listG2_tup, DL.listG2_scr, DL.tupleG_lst, DL.tupleG_tup, DL.allG, DL.dSlice, DL.dNo, DL.dPart, DL.cutD_str, DL.cutD_lst, DL.cutD_tup, DL.dGNil, DL.dGCons, DL.dTupT, DL.dIter, DL.dRange1, DL.dRange2, DL.atI_0, DL.atI_1, DL.atI_2, DL.atI_3, DL.atI_4, DL.hotAt, DL.putAt, DL.SV.put, DL.dAppend, DL.dExtend, DL.sStore, DL.storeD, DL.sFldD, DL.putFD, DL.dFld, DL.splitG, DL.partitionG, DL.startsG, DL.joinG, DL.dClear, List.getElem?_cons_zero, List.getElem?_cons_succ, List.set_cons_zero, List.set_cons_succ, List.length_cons, List.length_nil, List.map_cons, List.map_nil, List.replicate_succ, List.replicate_zero, List.nil_append, List.cons_append, Nat.reduceAdd, Nat.reduceSub, Bool.bne_false, Bool.bne_true, Bool.not_true, Bool.not_false, decide_eq_true_eq, Bool.false_eq_true, reduceIte, and_true, true_and, if_true, if_false, decide_true, decide_false]
      refine ⟨by decide, ?_⟩
      refine inner_loop s.four (show k ≤ 3 by omega) rfl (codesS r k) [] _ _ (.inl rfl) (fun c hc => (codesS_mem hc).1) (by rw [List.nil_append, codesS_succ]) (fun s5 v6 h5 hv6 => ?_) hv
      rcases h5 with rfl | rfl
      all_goals
        rcases h3 with rfl | rfl
        all_goals
          simp only [DL.dVar, DL.dC, DL.dBin, DL.dUn, DL.dTest, DL.dIf, DL.dAnd, DL.dOr, DL.dNot, DL.dAndV, DL.dOrV, DL.dNotV, DL.dChain, DL.dNil, DL.dCons, DL.dTup, DL.dLst, DL.dDK, DL.dFz, DL.dCallL, DL.dCallP, DL.dCallN, DL.dCallT, DL.dCallTN, DL.dMake, DL.dProp, DL.dMeth, DL.dFmt, DL.dJs, DL.look, DL.lookL, DL.frz, DL.frzL, DL.startD, DL.startT, DL.sSeq, DL.sIf, DL.sRet, DL.sRetNew, DL.sRetN, DL.sAsg, DL.sNew, DL.sDrop, DL.sNext, DL.sPar, DL.sFor, DL.dSet, DL.endsP, DL.endsN, DL.endsT, DL.endsTN, DL.SV.toD, DL.Cell.toD, DL.isTy_str, DL.ixD_lst, DL.ixD_tup, DL.ixD_str, DL.ixD_dKs, DL.ixD_dKi, DL.inG_dKs, DL.inG_sign, DL.eqG_int, DL.eqG_str, DL.eqG_bl, DL.addD_int, DL.addD_str, DL.addD_lst, DL.addD_tup, DL.intD_int, DL.cmpD_int, DL.cmpD_str, DL.negD, DL.isNG1, DL.isN, DL.isiG, DL.isD, DL.isAnyG, DL.isAny, DL.isInsG, DL.lenG_str, DL.lenG_lst, DL.lenG_tup, DL.lenG_dK, DL.lenG_scr, DL.intG_int, DL.intG_bl, DL.intG_str, DL.strG, DL.absG, DL.two, DL.listG2_dK, DL.listG2_lst, DL.listG2_tup, DL.listG2_scr, DL.tupleG_lst, DL.tupleG_tup, DL.allG, DL.dSlice, DL.dNo, DL.dPart, DL.cutD_str, DL.cutD_lst, DL.cutD_tup, DL.dGNil, DL.dGCons, DL.dTupT, DL.dIter, DL.dRange1, DL.dRange2, DL.atI_0, DL.atI_1, DL.atI_2, DL.atI_3, DL.atI_4, DL.hotAt, DL.putAt, DL.SV.put, DL.dAppend, DL.dExtend, DL.sStore, DL.storeD, DL.sFldD, DL.putFD, DL.dFld, DL.splitG, DL.partitionG, DL.startsG, DL.joinG, DL.dClear, List.getElem?_cons_zero, List.getElem?_cons_succ, List.set_cons_zero, List.set_cons_succ, List.length_cons, List.length_nil, List.map_cons, List.map_nil, List.replicate_succ, List.replicate_zero, List.nil_append, List.cons_append, Nat.reduceAdd, Nat.reduceSub, Bool.bne_false, Bool.bne_true, Bool.not_true, Bool.not_false, decide_eq_true_eq, Bool.false_eq_true, reduceIte, and_true, true_and, if_true, if_false, decide_true, decide_false, dLc]
          refine lcGo_map (f := fun d => match d with | .str a => (if k + 1 = w then .str a else .str (hat a)) | _ => d) ?_ _ _ (fun d hd Q2 Q3 h3 => ?_) ?_ ?_
          · cases v6 with
            | none => rfl
            | some s => obtain ⟨d, rfl⟩ := hv6 s rfl; rfl
          · obtain ⟨a, ha, e⟩ := List.mem_map.mp hd
            subst e
            have hal := (codesS_mem ha).1
            rw [← len_tl] at hal
            by_cases z : k + 1 = w
            · have z' : (1 : Int) + (k : Int) = (w : Int) := by omega
              have h3 : Q2 (if k + 1 = w then D.str a else .str (hat a)) _ := h3
              rw [if_pos z, z'] at h3
              simp only [DL.dVar, DL.dC, DL.dBin, DL.dUn, DL.dTest, DL.dIf, DL.dAnd, DL.dOr, DL.dNot, DL.dAndV, DL.dOrV, DL.dNotV, DL.dChain, DL.dNil, DL.dCons, DL.dTup, DL.dLst, DL.dDK, DL.dFz, DL.dCallL, DL.dCallP, DL.dCallN, DL.dCallT, DL.dCallTN, DL.dMake, DL.dProp, DL.dMeth, DL.dFmt, DL.dJs, DL.look, DL.lookL, DL.frz, DL.frzL, DL.startD, DL.startT, DL.sSeq, DL.sIf, DL.sRet, DL.sRetNew, DL.sRetN, DL.sAsg, DL.sNew, DL.sDrop, DL.sNext, DL.sPar, DL.sFor, DL.dSet, DL.endsP, DL.endsN, DL.endsT, DL.endsTN, DL.SV.toD, DL.Cell.toD, DL.isTy_str, DL.ixD_lst, DL.ixD_tup, DL.ixD_str, DL.ixD_dKs, DL.ixD_dKi, DL.inG_dKs, DL.inG_sign, DL.eqG_int, DL.eqG_str, DL.eqG_bl, DL.addD_int, DL.addD_str, DL.addD_lst, DL.addD_tup, DL.intD_int, DL.cmpD_int, DL.cmpD_str, DL.negD, DL.isNG1, DL.isN, DL.isiG, DL.isD, DL.isAnyG, DL.isAny, DL.isInsG, DL.lenG_str, DL.lenG_lst, DL.lenG_tup, DL.lenG_dK, DL.lenG_scr, DL.intG_int, DL.intG_bl, DL.intG_str, DL.strG, DL.absG, DL.two, DL.listG2_dK, DL.listG2_lst, DL.listG2_tup, DL.listG2_scr, DL.tupleG_lst, DL.tupleG_tup, DL.allG, DL.dSlice, DL.dNo, DL.dPart, DL.cutD_str, DL.cutD_lst, DL.cutD_tup, DL.dGNil, DL.dGCons, DL.dTupT, DL.dIter, DL.dRange1, DL.dRange2, DL.atI_0, DL.atI_1, DL.atI_2, DL.atI_3, DL.atI_4, DL.hotAt, DL.putAt, DL.SV.put, DL.dAppend, DL.dExtend, DL.sStore, DL.storeD, DL.sFldD, DL.putFD, DL.dFld, DL.splitG, DL.partitionG, DL.startsG, DL.joinG, DL.dClear, List.getElem?_cons_zero, List.getElem?_cons_succ, List.set_cons_zero, List.set_cons_succ, List.length_cons, List.length_nil, List.map_cons, List.map_nil, List.replicate_succ, List.replicate_zero, List.nil_append, List.cons_append, Nat.reduceAdd, Nat.reduceSub, Bool.bne_false, Bool.bne_true, Bool.not_true, Bool.not_false, decide_eq_true_eq, Bool.false_eq_true, reduceIte, and_true, true_and, if_true, if_false, decide_true, decide_false, dYes, wipeE, back, z']
              refine ⟨fit (by omega), by decide, ?_⟩
              cases v6 <;> exact h3
            · have z' : ¬ (1 : Int) + (k : Int) = (w : Int) := by omega
              have h3 : Q2 (if k + 1 = w then D.str a else .str (hat a)) _ := h3
              rw [if_neg z] at h3
              simp only [DL.dVar, DL.dC, DL.dBin, DL.dUn, DL.dTest, DL.dIf, DL.dAnd, DL.dOr, DL.dNot, DL.dAndV, DL.dOrV, DL.dNotV, DL.dChain, DL.dNil, DL.dCons, DL.dTup, DL.dLst, DL.dDK, DL.dFz, DL.dCallL, DL.dCallP, DL.dCallN, DL.dCallT, DL.dCallTN, DL.dMake, DL.dProp, DL.dMeth, DL.dFmt, DL.dJs, DL.look, DL.lookL, DL.frz, DL.frzL, DL.startD, DL.startT, DL.sSeq, DL.sIf, DL.sRet, DL.sRetNew, DL.sRetN, DL.sAsg, DL.sNew, DL.sDrop, DL.sNext, DL.sPar, DL.sFor, DL.dSet, DL.endsP, DL.endsN, DL.endsT, DL.endsTN, DL.SV.toD, DL.Cell.toD, DL.isTy_str, DL.ixD_lst, DL.ixD_tup, DL.ixD_str, DL.ixD_dKs, DL.ixD_dKi, DL.inG_dKs, DL.inG_sign, DL.eqG_int, DL.eqG_str, DL.eqG_bl, DL.addD_int, DL.addD_str, DL.addD_lst, DL.addD_tup, DL.intD_int, DL.cmpD_int, DL.cmpD_str, DL.negD, DL.isNG1, DL.isN, DL.isiG, DL.isD, DL.isAnyG, DL.isAny, DL.isInsG, DL.lenG_str, DL.lenG_lst, DL.lenG_tup, DL.lenG_dK, DL.lenG_scr, DL.intG_int, DL.intG_bl, DL.intG_str, DL.strG, DL.absG, DL.two, DL.listG2_dK, DL.listG2_lst, DL.listG2_tup, DL.listG2_scr, DL.tupleG_lst, DL.tupleG_tup, DL.allG, DL.dSlice, DL.dNo, DL.dPart, DL.cutD_str, DL.cutD_lst, DL.cutD_tup, DL.dGNil, DL.dGCons, DL.dTupT, DL.dIter, DL.dRange1, DL.dRange2, DL.atI_0, DL.atI_1, DL.atI_2, DL.atI_3, DL.atI_4, DL.hotAt, DL.putAt, DL.SV.put, DL.dAppend, DL.dExtend, DL.sStore, DL.storeD, DL.sFldD, DL.putFD, DL.dFld, DL.splitG, DL.partitionG, DL.startsG, DL.joinG, DL.dClear, List.getElem?_cons_zero, List.getElem?_cons_succ, List.set_cons_zero, List.set_cons_succ, List.length_cons, List.length_nil, List.map_cons, List.map_nil, List.replicate_succ, List.replicate_zero, List.nil_append, List.cons_append, Nat.reduceAdd, Nat.reduceSub, Bool.bne_false, Bool.bne_true, Bool.not_true, Bool.not_false, decide_eq_true_eq, Bool.false_eq_true, reduceIte, and_true, true_and, if_true, if_false, decide_true, decide_false, dYes, wipeE, back, z']
              refine ⟨fit (by omega), by decide, ?_⟩
              cases v6 <;> exact h3
          · rw [List.length_map, List.length_nil]; exact fit (by omega)
          · rw [List.nil_append, List.map_map]
            simp only [DL.dVar, DL.dC, DL.dBin, DL.dUn, DL.dTest, DL.dIf, DL.dAnd, DL.dOr, DL.dNot, DL.dAndV, DL.dOrV, DL.dNotV, DL.dChain, DL.dNil, DL.dCons, DL.dTup, DL.dLst, DL.dDK, DL.dFz, DL.dCallL, DL.dCallP, DL.dCallN, DL.dCallT, DL.dCallTN, DL.dMake, DL.dProp, DL.dMeth, DL.dFmt, DL.dJs, DL.look, DL.lookL, DL.frz, DL.frzL, DL.startD, DL.startT, DL.sSeq, DL.sIf, DL.sRet, DL.sRetNew, DL.sRetN, DL.sAsg, DL.sNew, DL.sDrop, DL.sNext, DL.sPar, DL.sFor, DL.dSet, DL.endsP, DL.endsN, DL.endsT, DL.endsTN, DL.SV.toD, DL.Cell.toD, DL.isTy_str, DL.ixD_lst, DL.ixD_tup, DL.ixD_str, DL.ixD_dKs, DL.ixD_dKi, DL.inG_dKs, DL.inG_sign, DL.eqG_int, DL.eqG_str, DL.eqG_bl, DL.addD_int, DL.addD_str, DL.addD_lst, DL.addD_tup, DL.intD_int, DL.cmpD_int, DL.cmpD_str, DL.negD, DL.isNG1, DL.isN, DL.isiG, DL.isD, DL.isAnyG, DL.isAny, DL.isInsG, DL.lenG_str, DL.lenG_lst, DL.lenG_tup, DL.lenG_dK, DL.lenG_scr, DL.intG_int, DL.intG_bl, DL.intG_str, DL.strG, DL.absG, DL.two, DL.listG2_dK, DL.listG2_lst, DL.listG2_tup, DL.listG2_scr, DL.tupleG_lst, DL.tupleG_tup, DL.allG, DL.dSlice, DL.dNo, DL.dPart, DL.cutD_str, DL.cutD_lst, DL.cutD_tup, DL.dGNil, DL.dGCons, DL.dTupT, DL.dIter, DL.dRange1, DL.dRange2, DL.atI_0, DL.atI_1, DL.atI_2, DL.atI_3, DL.atI_4, DL.hotAt, DL.putAt, DL.SV.put, DL.dAppend, DL.dExtend, DL.sStore, DL.storeD, DL.sFldD, DL.putFD, DL.dFld, DL.splitG, DL.partitionG, DL.startsG, DL.joinG, DL.dClear, List.getElem?_cons_zero, List.getElem?_cons_succ, List.set_cons_zero, List.set_cons_succ, List.length_cons, List.length_nil, List.map_cons, List.map_nil, List.replicate_succ, List.replicate_zero, List.nil_append, List.cons_append, Nat.reduceAdd, Nat.reduceSub, Bool.bne_false, Bool.bne_true, Bool.not_true, Bool.not_false, decide_eq_true_eq, Bool.false_eq_true, reduceIte, and_true, true_and, if_true, if_false, decide_true, decide_false, List.length_map]
            refine ⟨fit (by omega), ?_⟩
            have e2 : (fnd r w k).map D.str ++ (codesS r (k + 1)).map ((fun d => match d with | .str a => (if k + 1 = w then D.str a else .str (hat a)) | _ => d) ∘ D.str) = (fnd r w (k + 1)).map D.str := by
              rw [fnd_succ]
              by_cases z : k + 1 = w
              · simp [Function.comp_def, z]
              · simp [Function.comp_def, z]
            rw [e2]
            exact ih (k + 1) _ _ _ _ _ (by omega) (.inr rfl) (.inr rfl) hv6 h
theorem h__law_all_stretches : ∀ ds r, M__law_all_stretches ds r → t__law_all_stretches (endsP r) (startD N__law_all_stretches.length ds) := by
  rintro _ _ ⟨r, w, s, rfl, rfl⟩
  have h1 := s.w1
  have h3 := s.w3
  simp only [DL.dVar, DL.dC, DL.dBin, DL.dUn, DL.dTest, DL.dIf, DL.dAnd, DL.dOr, DL.dNot, DL.dAndV, DL.dOrV, DL.dNotV, DL.dChain, DL.dNil, DL.dCons, DL.dTup, DL.dLst, DL.dDK, DL.dFz, DL.dCallL, DL.dCallP, DL.dCallN, DL.dCallT, DL.dCallTN, DL.dMake, DL.dProp, DL.dMeth, DL.dFmt, DL.dJs, DL.look, DL.lookL, DL.frz, DL.frzL, DL.startD, DL.startT, DL.sSeq, DL.sIf, DL.sRet, DL.sRetNew, DL.sRetN, DL.sAsg, DL.sNew, DL.sDrop, DL.sNext, DL.sPar, DL.sFor, DL.dSet, DL.endsP, DL.endsN, DL.endsT, DL.endsTN, DL.SV.toD, DL.Cell.toD, DL.isTy_str, DL.ixD_lst, DL.ixD_tup, DL.ixD_str, DL.ixD_dKs, DL.ixD_dKi, DL.inG_dKs, DL.inG_sign, DL.eqG_int, DL.eqG_str, DL.eqG_bl, DL.addD_int, DL.addD_str, DL.addD_lst, DL.addD_tup, DL.intD_int, DL.cmpD_int, DL.cmpD_str, DL.negD, DL.isNG1, DL.isN, DL.isiG, DL.isD, DL.isAnyG, DL.isAny, DL.isInsG, DL.lenG_str, DL.lenG_lst, DL.lenG_tup, DL.lenG_dK, DL.lenG_scr, DL.intG_int, DL.intG_bl, DL.intG_str, DL.strG, DL.absG, DL.two, DL.listG2_dK, DL.listG2_lst, DL.listG2_tup, DL.listG2_scr, DL.tupleG_lst, DL.tupleG_tup, DL.allG, DL.dSlice, DL.dNo, DL.dPart, DL.cutD_str, DL.cutD_lst, DL.cutD_tup, DL.dGNil, DL.dGCons, DL.dTupT, DL.dIter, DL.dRange1, DL.dRange2, DL.atI_0, DL.atI_1, DL.atI_2, DL.atI_3, DL.atI_4, DL.hotAt, DL.putAt, DL.SV.put, DL.dAppend, DL.dExtend, DL.sStore, DL.storeD, DL.sFldD, DL.putFD, DL.dFld, DL.splitG, DL.partitionG, DL.startsG, DL.joinG, DL.dClear, List.getElem?_cons_zero, List.getElem?_cons_succ, List.set_cons_zero, List.set_cons_succ, List.length_cons, List.length_nil, List.map_cons, List.map_nil, List.replicate_succ, List.replicate_zero, List.nil_append, List.cons_append, Nat.reduceAdd, Nat.reduceSub, Bool.bne_false, Bool.bne_true, Bool.not_true, Bool.not_false, decide_eq_true_eq, Bool.false_eq_true, reduceIte, and_true, true_and, if_true, if_false, decide_true, decide_false, t__law_all_stretches, rangeD]
  refine ⟨by decide, by decide, by omega, ?_⟩
  rw [show ((w : Int) + 1 - 1).toNat = w by omega, List.range_eq_range']
  refine outer_loop s w 0 _ _ _ _ _ (by omega) (.inl ?_) (.inl rfl) (fun s hs => nomatch hs) fun s2 s3 s4 s5 v6 h3 => ?_
  · rfl
  · rcases h3 with rfl | rfl
    all_goals
      simp only [DL.dVar, DL.dC, DL.dBin, DL.dUn, DL.dTest, DL.dIf, DL.dAnd, DL.dOr, DL.dNot, DL.dAndV, DL.dOrV, DL.dNotV, DL.dChain, DL.dNil, DL.dCons, DL.dTup, DL.dLst, DL.dDK, DL.dFz, DL.dCallL, DL.dCallP, DL.dCallN, DL.dCallT, DL.dCallTN, DL.dMake, DL.dProp, DL.dMeth, DL.dFmt, DL.dJs, DL.look, DL.lookL, DL.frz, DL.frzL, DL.startD, DL.startT, DL.sSeq, DL.sIf, DL.sRet, DL.sRetNew, DL.sRetN, DL.sAsg, DL.sNew, DL.sDrop, DL.sNext, DL.sPar, DL.sFor, DL.dSet, DL.endsP, DL.endsN, DL.endsT, DL.endsTN, DL.SV.toD, DL.Cell.toD, DL.isTy_str, DL.ixD_lst, DL.ixD_tup, DL.ixD_str, DL.ixD_dKs, DL.ixD_dKi, DL.inG_dKs, DL.inG_sign, DL.eqG_int, DL.eqG_str, DL.eqG_bl, DL.addD_int, DL.addD_str, DL.addD_lst, DL.addD_tup, DL.intD_int, DL.cmpD_int, DL.cmpD_str, DL.negD, DL.isNG1, DL.isN, DL.isiG, DL.isD, DL.isAnyG, DL.isAny, DL.isInsG, DL.lenG_str, DL.lenG_lst, DL.lenG_tup, DL.lenG_dK, DL.lenG_scr, DL.intG_int, DL.intG_bl, DL.intG_str, DL.strG, DL.absG, DL.two, DL.listG2_dK, DL.listG2_lst, DL.listG2_tup, DL.listG2_scr, DL.tupleG_lst, DL.tupleG_tup, DL.allG, DL.dSlice, DL.dNo, DL.dPart, DL.cutD_str, DL.cutD_lst, DL.cutD_tup, DL.dGNil, DL.dGCons, DL.dTupT, DL.dIter, DL.dRange1, DL.dRange2, DL.atI_0, DL.atI_1, DL.atI_2, DL.atI_3, DL.atI_4, DL.hotAt, DL.putAt, DL.SV.put, DL.dAppend, DL.dExtend, DL.sStore, DL.storeD, DL.sFldD, DL.putFD, DL.dFld, DL.splitG, DL.partitionG, DL.startsG, DL.joinG, DL.dClear, List.getElem?_cons_zero, List.getElem?_cons_succ, List.set_cons_zero, List.set_cons_succ, List.length_cons, List.length_nil, List.map_cons, List.map_nil, List.replicate_succ, List.replicate_zero, List.nil_append, List.cons_append, Nat.reduceAdd, Nat.reduceSub, Bool.bne_false, Bool.bne_true, Bool.not_true, Bool.not_false, decide_eq_true_eq, Bool.false_eq_true, reduceIte, and_true, true_and, if_true, if_false, decide_true, decide_false, sortedG2, sortedG, strsD_map, List.length_map, sort_fnd s]
      rw [(fnd_perm s).length_eq]
      exact pre_len s
/-! the table of the law -/
theorem fracOf_ok {t : Tape} (h : t.ok) : (fracOf t).2.ok ∧ (fracOf t).2.turn ≤ t.turn + 2 ∧ FrOk (fracOf t).1 := by
  have p1 := pick_ok (s := 1000000) h (by decide)
  have p2 := pick_ok (s := 5) p1.ok (by decide)
  have hF := fracOf_eq t
  have b := bots_rng (g := (pick t 1000000).1) p2.lo p2.hi
  have a := tops_rng p1.lo p1.hi p2.lo p2.hi
  generalize (tops (pick t 1000000).1).getD (pick (pick t 1000000).2 5).1.toNat 0 = x at *
  generalize (bots (pick t 1000000).1).getD (pick (pick t 1000000).2 5).1.toNat 1 = y at *
  rw [hF]
  refine ⟨p2.ok, by have := p1.turn; have := p2.turn; show (pick (pick t 1000000).2 5).2.turn ≤ _; omega, ?_⟩
  have hg : 0 < Int.gcd x y := Int.gcd_pos_of_ne_zero_right _ (by omega)
  have hgi : (0 : Int) < (Int.gcd x y : Int) := by omega
  have dx : ((Int.gcd x y : Nat) : Int) ∣ x := Int.gcd_dvd_left ..
  have dy : ((Int.gcd x y : Nat) : Int) ∣ y := Int.gcd_dvd_right ..
  refine ⟨?_, ?_, ?_, ?_⟩
  · show (x / (Int.gcd x y : Int)).natAbs < _
    exact Nat.lt_of_le_of_lt (Int.natAbs_ediv_le_natAbs _ _) a
  · exact Int.ediv_pos_of_pos_of_dvd b.1 (Int.le_of_lt hgi) dy
  · exact Int.lt_of_le_of_lt (Int.ediv_le_self _ (Int.le_of_lt b.1)) (by have := b.2; omega)
  · exact Int.gcd_ediv_gcd_ediv_gcd hg
end K86

set_option Elab.async false
set_option linter.all false
set_option maxRecDepth 100000
set_option maxHeartbeats 2000000
namespace K86
open PySem L2 DL TL
variable {r : Str} {w : Nat} {t : Tab}
/-! a text tells its table -/
theorem numS_inj {a b : Int} (h : numS a = numS b) : a = b := by
  have h := congrArg tl h
  have key : ∀ i : Int, (i < 0 ∧ tl (numS i) = 45 :: numL i.natAbs) ∨ (0 ≤ i ∧ tl (numS i) = numL i.natAbs) := fun i => by
    rcases Int.lt_or_le i 0 with z | z
    · obtain ⟨n, rfl⟩ : ∃ n : Nat, i = -(n : Int) := ⟨i.natAbs, by omega⟩
      exact .inl ⟨z, by rw [tl_numS_neg n (by omega), Int.natAbs_neg, Int.natAbs_natCast]⟩
    · obtain ⟨n, rfl⟩ := Int.eq_ofNat_of_zero_le z
      exact .inr ⟨z, tl_numS n⟩
  have no : ∀ (n : Nat) (l : List Nat), numL n ≠ 45 :: l := fun n l e => by
    have := numL_digits n 45 (by rw [e]; exact List.mem_cons_self); omega
  rcases key a with ⟨za, ea⟩ | ⟨za, ea⟩ <;> rcases key b with ⟨zb, eb⟩ | ⟨zb, eb⟩ <;> rw [ea, eb] at h
  · have := numL_inj (List.cons.inj h).2; omega
  · exact (no _ _ h.symm).elim
  · exact (no _ _ h).elim
  · have := numL_inj h; omega
theorem fr_part (p : Int × Int) : Txt.partition (frS p) (Str.ofString "/") = if p.2 = 1 then (numS p.1, Str.empty, Str.empty) else (numS p.1, Str.ofString "/", numS p.2) := by
  unfold frS
  split
  · exact partition_none tl_slash (no_slash _)
  · exact partition_app tl_slash (no_slash _)
theorem frS_inj {p q : Int × Int} (h : frS p = frS q) : p = q := by
  have h := congrArg (fun x => Txt.partition x (Str.ofString "/")) h
  simp only [fr_part] at h
  have ne : ¬ Str.empty = Str.ofString "/" := by decide +kernel
  obtain ⟨a, b⟩ := p
  obtain ⟨c, d⟩ := q
  simp only at h
  split at h <;> split at h <;> simp only [Prod.mk.injEq] at h
  · have := numS_inj h.1; simp_all
  · exact (ne h.2.1).elim
  · exact (ne h.2.1.symm).elim
  · have := numS_inj h.1; have := numS_inj h.2.2; simp_all
theorem line_inj {p q : Str × Int × Int} (hp : isSt p.1) (hq : isSt q.1) (h : lineS p = lineS q) : p = q := by
  have h := congrArg (fun x => Txt.partition x (Str.ofString " ")) h
  simp only [line_part hp, line_part hq, Prod.mk.injEq] at h
  have := frS_inj h.2.2
  exact Prod.ext h.1 this
theorem text_inj {t t' : Tab} (h : TabOk r w t) (h' : TabOk r w t') (e : textS r w t = textS r w t') : t = t' := by
  have e1 := text_split h
  have e2 := text_split h'
  rw [e, e2] at e1
  have e3 := List.append_cancel_right e1
  unfold linesS at e3
  have e4 := (List.cons.inj e3).2
  have s1 : ∀ p ∈ t, isSt p.1 := fun p hp => tab_st h hp
  have s2 : ∀ p ∈ t', isSt p.1 := fun p hp => tab_st h' hp
  clear h h' e e1 e2 e3
  induction t generalizing t' with
  | nil => cases t' with | nil => rfl | cons a l => simp at e4
  | cons p t ih =>
    cases t' with
    | nil => simp at e4
    | cons q t' =>
      rw [List.map_cons, List.map_cons] at e4
      obtain ⟨a1, a2⟩ := List.cons.inj e4
      have := line_inj (s1 p List.mem_cons_self) (s2 q List.mem_cons_self) a1.symm
      subst this
      rw [ih a2 (fun p hp => s1 p (List.mem_cons_of_mem _ hp)) fun p hp => s2 p (List.mem_cons_of_mem _ hp)]
/-! the rows -/
theorem joinL_nil : ∀ l : List (List Nat), joinL [] l = l.flatten
  | [] => rfl
  | [p] => by simp [joinL]
  | p :: q :: l => by
    show p ++ ([] ++ joinL [] (q :: l)) = _
    rw [joinL_nil (q :: l)]; simp
theorem singles {l : List Str} (h : ∀ x ∈ l, ∃ c, x = mk [c]) : ∃ cs : List Nat, l = cs.map fun c => mk [c] := by
  induction l with
  | nil => exact ⟨[], rfl⟩
  | cons x l ih =>
    obtain ⟨c, hc⟩ := h x List.mem_cons_self
    obtain ⟨cs, e⟩ := ih fun y hy => h y (List.mem_cons_of_mem _ hy)
    exact ⟨c :: cs, by rw [hc, e]; rfl⟩
theorem letters_inj {a b : Int} (h0 : 0 ≤ b) (h1 : b < 6) {i j : Nat} (hi : i < 4) (hj : j < 4) (e : lettersAt a (1 + 2 * b) i = lettersAt a (1 + 2 * b) j) : i = j := by
  unfold lettersAt at e
  have p1 := Int.emod_nonneg (a + (1 + 2 * b) * (i : Int)) (show (26 : Int) ≠ 0 by decide)
  have p2 := Int.emod_nonneg (a + (1 + 2 * b) * (j : Int)) (show (26 : Int) ≠ 0 by decide)
  have e2 : (a + (1 + 2 * b) * (i : Int)) % 26 = (a + (1 + 2 * b) * (j : Int)) % 26 := by omega
  obtain z | z | z | z | z | z : b = 0 ∨ b = 1 ∨ b = 2 ∨ b = 3 ∨ b = 4 ∨ b = 5 := by omega
  all_goals subst z; simp only [Int.mul_zero, Int.add_zero, Int.reduceMul, Int.reduceAdd] at e2; omega
theorem flat_one : ∀ cs : List Nat, (cs.map fun c => [c]).flatten = cs
  | [] => rfl
  | c :: cs => by rw [List.map_cons, List.flatten_cons, flat_one cs]; rfl
theorem rows_ok {a b c : Int} (h0 : 0 ≤ b) (h1 : b < 6) (c0 : 0 ≤ c) (c1 : c < 4) : RowsOk (Txt.join Str.empty (sortS (rowL a b c))) ∧ (tl (Txt.join Str.empty (sortS (rowL a b c)))).length = (1 + c).toNat := by
  have hm : ∀ x ∈ sortS (rowL a b c), ∃ k, k < 4 ∧ x = mk [lettersAt a (1 + 2 * b) k] := fun x hx => by
    have hx := (sortS_perm _).mem_iff.mp hx
    unfold rowL at hx
    obtain ⟨k, hk, e⟩ := List.mem_map.mp hx
    have := List.mem_range.mp hk
    exact ⟨k, by omega, e.symm⟩
  obtain ⟨cs, e⟩ := singles (l := sortS (rowL a b c)) fun x hx => by obtain ⟨k, _, e⟩ := hm x hx; exact ⟨_, e⟩
  have et : tl (Txt.join Str.empty (sortS (rowL a b c))) = cs := by
    rw [join_eq, tl_join, tl_emp, joinL_nil, e, List.map_map]
    exact flat_one cs
  have hn : (rowL a b c).Nodup := by
    unfold rowL
    refine List.pairwise_map.mpr ((List.pairwise_lt_range).imp_of_mem fun {i j} hi hj hij q => ?_)
    have h2 := List.mem_range.mp hi
    have h3 := List.mem_range.mp hj
    have := letters_inj h0 h1 (by omega) (by omega) (List.cons.inj (mk_inj q)).1
    omega
  have hn2 : (sortS (rowL a b c)).Nodup := (sortS_perm _).nodup_iff.mpr hn
  have hs := sortS_pw (rowL a b c)
  have hlen : cs.length = (1 + c).toNat := by
    have := (sortS_perm (rowL a b c)).length_eq
    rw [e, List.length_map] at this
    rw [this]; unfold rowL; rw [List.length_map, List.length_range]
  rw [et]
  refine ⟨⟨?_, ?_, ?_, ?_⟩, hlen⟩
  · rw [et]
    have hp := hs.and hn2
    rw [e] at hp
    refine (List.pairwise_map.mp hp).imp fun {x y} q => ?_
    have := lt_of_le q.1 q.2
    have : ([x] : List Nat) < [y] := this
    rcases List.cons_lt_cons_iff.mp this with z | ⟨_, z⟩
    · exact z
    · exact absurd z (by simp)
  · rw [et]
    intro x hx
    have : mk [x] ∈ sortS (rowL a b c) := by rw [e]; exact List.mem_map.mpr ⟨x, hx, rfl⟩
    obtain ⟨k, hk, q⟩ := hm _ this
    have q := (List.cons.inj (mk_inj q)).1
    rw [q]
    unfold lettersAt
    have p1 := Int.emod_nonneg (a + (1 + 2 * b) * (k : Int)) (show (26 : Int) ≠ 0 by decide)
    have p2 := Int.emod_lt_of_pos (a + (1 + 2 * b) * (k : Int)) (show (0 : Int) < 26 by decide)
    omega
  · rw [et, hlen]; omega
  · rw [et, hlen]; omega
end K86

set_option Elab.async false
set_option linter.all false
set_option maxRecDepth 100000
set_option maxHeartbeats 2000000
namespace K86
open PySem L2 DL TL
variable {r : Str} {w : Nat} {t : Tab}
theorem fracs_keys : ∀ (xs : List Str) (T : Tape), (fracsOf xs T).1.map (·.1) = xs
  | [], _ => rfl
  | x :: xs, T => by
    show x :: (fracsOf xs (fracOf T).2).1.map (·.1) = x :: xs
    rw [fracs_keys xs]
theorem fracs_ok : ∀ (xs : List Str) (T : Tape), T.ok → (fracsOf xs T).2.ok ∧ (fracsOf xs T).2.turn ≤ T.turn + 2 * xs.length ∧ ∀ p ∈ (fracsOf xs T).1, FrOk p.2
  | [], T, h => ⟨h, Nat.le_refl _, fun p hp => nomatch hp⟩
  | x :: xs, T, h => by
    obtain ⟨h1, h2, h3⟩ := fracOf_ok h
    obtain ⟨h4, h5, h6⟩ := fracs_ok xs _ h1
    refine ⟨h4, ?_, fun p hp => ?_⟩
    · rw [List.length_cons]
      show (fracsOf xs (fracOf T).2).2.turn ≤ _
      omega
    · rcases List.mem_cons.mp hp with e | e
      · rw [e]; exact h3
      · exact h6 p e
theorem table_loop {D' : DEnds} : ∀ (xs : List Str) (pre : Tab) (T : Tape) (v : Option SV), T.ok → T.turn + 2 * xs.length < 2 ^ 19 → (pre.map (·.1) ++ xs).Nodup → pre.length + xs.length ≤ 64 →
    (∀ v, D'.nx [some (.brw 0 (.lst (tapeL (fracsOf xs T).2))), some (.imm (.str r)), some (.imm (.int w)), some (.own (.dK (tabD (pre ++ (fracsOf xs T).1)))), v]) →
    forGo (dSet 4) (sStore NW 3 (dCallT M__law_fraction (dCons (dVar 0) dNil)) (dVar 4)) (xs.map .str) D' [some (.brw 0 (.lst (tapeL T))), some (.imm (.str r)), some (.imm (.int w)), some (.own (.dK (tabD pre))), v] := by
  intro xs
  induction xs with
  | nil =>
    intro pre T v _ _ _ _ h
    have h := h v
    rw [show (fracsOf [] T).1 = [] from rfl, List.append_nil] at h
    exact h
  | cons x xs ih =>
    intro pre T v ok ht hn hz h
    rw [List.length_cons] at ht hz
    obtain ⟨h1, h2, h3⟩ := fracOf_ok ok
    have hnx : x ∉ pre.map (·.1) := fun z => (List.nodup_append.mp hn).2.2 x z x List.mem_cons_self rfl
    have hsz : (tabD pre).length < sizeLine := by
      unfold tabD; rw [List.length_map]; exact Nat.lt_of_lt_of_le (show pre.length < 65 by omega) (by decide)
    simp only [List.map_cons]
    unfold forGo
    simp only [DL.dVar, DL.dC, DL.dBin, DL.dUn, DL.dTest, DL.dIf, DL.dAnd, DL.dOr, DL.dNot, DL.dAndV, DL.dOrV, DL.dNotV, DL.dChain, DL.dNil, DL.dCons, DL.dTup, DL.dLst, DL.dDK, DL.dFz, DL.dCallL, DL.dCallP, DL.dCallN, DL.dCallT, DL.dCallTN, DL.dMake, DL.dProp, DL.dMeth, DL.dFmt, DL.dJs, DL.look, DL.lookL, DL.frz, DL.frzL, DL.startD, DL.startT, DL.sSeq, DL.sIf, DL.sRet, DL.sRetNew, DL.sRetN, DL.sAsg, DL.sNew, DL.sDrop, DL.sNext, DL.sPar, DL.sFor, DL.dSet, DL.endsP, DL.endsN, DL.endsT, DL.endsTN, DL.SV.toD, DL.Cell.toD, DL.isTy_str, DL.ixD_lst, DL.ixD_tup, DL.ixD_str, DL.ixD_dKs, DL.ixD_dKi, DL.inG_dKs, DL.inG_sign, DL.eqG_int, DL.eqG_str, DL.eqG_bl, DL.addD_int, DL.addD_str, DL.addD_lst, DL.addD_tup, DL.intD_int, DL.cmpD_int, DL.cmpD_str, DL.negD, DL.isNG1, DL.isN, DL.isiG, DL.isD, DL.isAnyG, DL.isAny, DL.isInsG, DL.lenG_str, DL.lenG_lst, DL.lenG_tup, DL.lenG_dK, DL.lenG_scr, DL.intG_int, DL.intG_bl, DL.intG_str, DL.strG, DL.absG, DL.two, DL.listG2_dK, DL.listG2_lst, DL.listG2_tup, DL.listG2_scr, DL.tupleG_lst, DL.tupleG_tup, DL.allG, DL.dSlice, DL.dNo, DL.dPart, DL.cutD_str, DL.cutD_lst, DL.cutD_tup, DL.dGNil, DL.dGCons, DL.dTupT, DL.dIter, DL.dRange1, DL.dRange2, DL.atI_0, DL.atI_1, DL.atI_2, DL.atI_3, DL.atI_4, DL.hotAt, DL.putAt, DL.SV.put, DL.dAppend, DL.dExtend, DL.sStore, DL.storeD, DL.sFldD, DL.putFD, DL.dFld, DL.splitG, DL.partitionG, DL.startsG, DL.joinG, DL.dClear, List.getElem?_cons_zero, List.getElem?_cons_succ, List.set_cons_zero, List.set_cons_succ, List.length_cons, List.length_nil, List.map_cons, List.map_nil, List.replicate_succ, List.replicate_zero, List.nil_append, List.cons_append, Nat.reduceAdd, Nat.reduceSub, Bool.bne_false, Bool.bne_true, Bool.not_true, Bool.not_false, decide_eq_true_eq, Bool.false_eq_true, reduceIte, and_true, true_and, if_true, if_false, decide_true, decide_false]
    refine ⟨_, _, ⟨T, ok, by omega, rfl, rfl, rfl, rfl⟩, ?_⟩
    have e := tabD_snoc pre (x, (fracOf T).1) hnx
    have e2 : fracsOf (x :: xs) T = ((x, (fracOf T).1) :: (fracsOf xs (fracOf T).2).1, (fracsOf xs (fracOf T).2).2) := rfl
    rw [e2] at h
    generalize fracOf T = F at *
    simp only [DL.dVar, DL.dC, DL.dBin, DL.dUn, DL.dTest, DL.dIf, DL.dAnd, DL.dOr, DL.dNot, DL.dAndV, DL.dOrV, DL.dNotV, DL.dChain, DL.dNil, DL.dCons, DL.dTup, DL.dLst, DL.dDK, DL.dFz, DL.dCallL, DL.dCallP, DL.dCallN, DL.dCallT, DL.dCallTN, DL.dMake, DL.dProp, DL.dMeth, DL.dFmt, DL.dJs, DL.look, DL.lookL, DL.frz, DL.frzL, DL.startD, DL.startT, DL.sSeq, DL.sIf, DL.sRet, DL.sRetNew, DL.sRetN, DL.sAsg, DL.sNew, DL.sDrop, DL.sNext, DL.sPar, DL.sFor, DL.dSet, DL.endsP, DL.endsN, DL.endsT, DL.endsTN, DL.SV.toD, DL.Cell.toD, DL.isTy_str, DL.ixD_lst, DL.ixD_tup, DL.ixD_str, DL.ixD_dKs, DL.ixD_dKi, DL.inG_dKs, DL.inG_sign, DL.eqG_int, DL.eqG_str, DL.eqG_bl, DL.addD_int, DL.addD_str, DL.addD_lst, DL.addD_tup, DL.intD_int, DL.cmpD_int, DL.cmpD_str, DL.negD, DL.isNG1, DL.isN, DL.isiG, DL.isD, DL.isAnyG, DL.isAny, DL.isInsG, DL.lenG_str, DL.lenG_lst, DL.lenG_tup, DL.lenG_dK, DL.lenG_scr, DL.intG_int, DL.intG_bl, DL.intG_str, DL.strG, DL.absG, DL.two, DL.listG2_dK, DL.listG2_lst, DL.listG2_tup, DL.listG2_scr, DL.tupleG_lst, DL.tupleG_tup, DL.allG, DL.dSlice, DL.dNo, DL.dPart, DL.cutD_str, DL.cutD_lst, DL.cutD_tup, DL.dGNil, DL.dGCons, DL.dTupT, DL.dIter, DL.dRange1, DL.dRange2, DL.atI_0, DL.atI_1, DL.atI_2, DL.atI_3, DL.atI_4, DL.hotAt, DL.putAt, DL.SV.put, DL.dAppend, DL.dExtend, DL.sStore, DL.storeD, DL.sFldD, DL.putFD, DL.dFld, DL.splitG, DL.partitionG, DL.startsG, DL.joinG, DL.dClear, List.getElem?_cons_zero, List.getElem?_cons_succ, List.set_cons_zero, List.set_cons_succ, List.length_cons, List.length_nil, List.map_cons, List.map_nil, List.replicate_succ, List.replicate_zero, List.nil_append, List.cons_append, Nat.reduceAdd, Nat.reduceSub, Bool.bne_false, Bool.bne_true, Bool.not_true, Bool.not_false, decide_eq_true_eq, Bool.false_eq_true, reduceIte, and_true, true_and, if_true, if_false, decide_true, decide_false, frD, hsz]
    unfold frD at e
    rw [e]
    refine ih (pre ++ [(x, F.1)]) F.2 _ h1 (by omega) (by simpa using hn) (by rw [List.length_append, List.length_singleton]; omega) fun v => ?_
    rw [List.append_assoc]
    exact h v
theorem h__law_table : ∀ c ds r c', M__law_table c ds r c' → t__law_table (endsTN r c') (startT N__law_table.length c ds) := by
  rintro _ _ _ _ ⟨T, r, w, ok, ht, s, rfl, rfl, rfl, rfl⟩
  have hl := names_len s
  show t__law_table _ [some (.brw 0 (.lst (tapeL T))), some (.imm (.str r)), some (.imm (.int w)), none, none]
  unfold t__law_table
  simp only [DL.dVar, DL.dC, DL.dBin, DL.dUn, DL.dTest, DL.dIf, DL.dAnd, DL.dOr, DL.dNot, DL.dAndV, DL.dOrV, DL.dNotV, DL.dChain, DL.dNil, DL.dCons, DL.dTup, DL.dLst, DL.dDK, DL.dFz, DL.dCallL, DL.dCallP, DL.dCallN, DL.dCallT, DL.dCallTN, DL.dMake, DL.dProp, DL.dMeth, DL.dFmt, DL.dJs, DL.look, DL.lookL, DL.frz, DL.frzL, DL.startD, DL.startT, DL.sSeq, DL.sIf, DL.sRet, DL.sRetNew, DL.sRetN, DL.sAsg, DL.sNew, DL.sDrop, DL.sNext, DL.sPar, DL.sFor, DL.dSet, DL.endsP, DL.endsN, DL.endsT, DL.endsTN, DL.SV.toD, DL.Cell.toD, DL.isTy_str, DL.ixD_lst, DL.ixD_tup, DL.ixD_str, DL.ixD_dKs, DL.ixD_dKi, DL.inG_dKs, DL.inG_sign, DL.eqG_int, DL.eqG_str, DL.eqG_bl, DL.addD_int, DL.addD_str, DL.addD_lst, DL.addD_tup, DL.intD_int, DL.cmpD_int, DL.cmpD_str, DL.negD, DL.isNG1, DL.isN, DL.isiG, DL.isD, DL.isAnyG, DL.isAny, DL.isInsG, DL.lenG_str, DL.lenG_lst, DL.lenG_tup, DL.lenG_dK, DL.lenG_scr, DL.intG_int, DL.intG_bl, DL.intG_str, DL.strG, DL.absG, DL.two, DL.listG2_dK, DL.listG2_lst, DL.listG2_tup, DL.listG2_scr, DL.tupleG_lst, DL.tupleG_tup, DL.allG, DL.dSlice, DL.dNo, DL.dPart, DL.cutD_str, DL.cutD_lst, DL.cutD_tup, DL.dGNil, DL.dGCons, DL.dTupT, DL.dIter, DL.dRange1, DL.dRange2, DL.atI_0, DL.atI_1, DL.atI_2, DL.atI_3, DL.atI_4, DL.hotAt, DL.putAt, DL.SV.put, DL.dAppend, DL.dExtend, DL.sStore, DL.storeD, DL.sFldD, DL.putFD, DL.dFld, DL.splitG, DL.partitionG, DL.startsG, DL.joinG, DL.dClear, List.getElem?_cons_zero, List.getElem?_cons_succ, List.set_cons_zero, List.set_cons_succ, List.length_cons, List.length_nil, List.map_cons, List.map_nil, List.replicate_succ, List.replicate_zero, List.nil_append, List.cons_append, Nat.reduceAdd, Nat.reduceSub, Bool.bne_false, Bool.bne_true, Bool.not_true, Bool.not_false, decide_eq_true_eq, Bool.false_eq_true, reduceIte, and_true, true_and, if_true, if_false, decide_true, decide_false]
  refine ⟨_, ⟨r, w, s, rfl, rfl⟩, ?_⟩
  simp only [DL.dVar, DL.dC, DL.dBin, DL.dUn, DL.dTest, DL.dIf, DL.dAnd, DL.dOr, DL.dNot, DL.dAndV, DL.dOrV, DL.dNotV, DL.dChain, DL.dNil, DL.dCons, DL.dTup, DL.dLst, DL.dDK, DL.dFz, DL.dCallL, DL.dCallP, DL.dCallN, DL.dCallT, DL.dCallTN, DL.dMake, DL.dProp, DL.dMeth, DL.dFmt, DL.dJs, DL.look, DL.lookL, DL.frz, DL.frzL, DL.startD, DL.startT, DL.sSeq, DL.sIf, DL.sRet, DL.sRetNew, DL.sRetN, DL.sAsg, DL.sNew, DL.sDrop, DL.sNext, DL.sPar, DL.sFor, DL.dSet, DL.endsP, DL.endsN, DL.endsT, DL.endsTN, DL.SV.toD, DL.Cell.toD, DL.isTy_str, DL.ixD_lst, DL.ixD_tup, DL.ixD_str, DL.ixD_dKs, DL.ixD_dKi, DL.inG_dKs, DL.inG_sign, DL.eqG_int, DL.eqG_str, DL.eqG_bl, DL.addD_int, DL.addD_str, DL.addD_lst, DL.addD_tup, DL.intD_int, DL.cmpD_int, DL.cmpD_str, DL.negD, DL.isNG1, DL.isN, DL.isiG, DL.isD, DL.isAnyG, DL.isAny, DL.isInsG, DL.lenG_str, DL.lenG_lst, DL.lenG_tup, DL.lenG_dK, DL.lenG_scr, DL.intG_int, DL.intG_bl, DL.intG_str, DL.strG, DL.absG, DL.two, DL.listG2_dK, DL.listG2_lst, DL.listG2_tup, DL.listG2_scr, DL.tupleG_lst, DL.tupleG_tup, DL.allG, DL.dSlice, DL.dNo, DL.dPart, DL.cutD_str, DL.cutD_lst, DL.cutD_tup, DL.dGNil, DL.dGCons, DL.dTupT, DL.dIter, DL.dRange1, DL.dRange2, DL.atI_0, DL.atI_1, DL.atI_2, DL.atI_3, DL.atI_4, DL.hotAt, DL.putAt, DL.SV.put, DL.dAppend, DL.dExtend, DL.sStore, DL.storeD, DL.sFldD, DL.putFD, DL.dFld, DL.splitG, DL.partitionG, DL.startsG, DL.joinG, DL.dClear, List.getElem?_cons_zero, List.getElem?_cons_succ, List.set_cons_zero, List.set_cons_succ, List.length_cons, List.length_nil, List.map_cons, List.map_nil, List.replicate_succ, List.replicate_zero, List.nil_append, List.cons_append, Nat.reduceAdd, Nat.reduceSub, Bool.bne_false, Bool.bne_true, Bool.not_true, Bool.not_false, decide_eq_true_eq, Bool.false_eq_true, reduceIte, and_true, true_and, if_true, if_false, decide_true, decide_false]
  refine table_loop (names r w) [] T none ok (by omega) (by simpa using names_nodup s) (by simp; omega) fun v => ?_
  rw [List.nil_append]
  generalize fracsOf (names r w) T = F
  simp only [DL.dVar, DL.dC, DL.dBin, DL.dUn, DL.dTest, DL.dIf, DL.dAnd, DL.dOr, DL.dNot, DL.dAndV, DL.dOrV, DL.dNotV, DL.dChain, DL.dNil, DL.dCons, DL.dTup, DL.dLst, DL.dDK, DL.dFz, DL.dCallL, DL.dCallP, DL.dCallN, DL.dCallT, DL.dCallTN, DL.dMake, DL.dProp, DL.dMeth, DL.dFmt, DL.dJs, DL.look, DL.lookL, DL.frz, DL.frzL, DL.startD, DL.startT, DL.sSeq, DL.sIf, DL.sRet, DL.sRetNew, DL.sRetN, DL.sAsg, DL.sNew, DL.sDrop, DL.sNext, DL.sPar, DL.sFor, DL.dSet, DL.endsP, DL.endsN, DL.endsT, DL.endsTN, DL.SV.toD, DL.Cell.toD, DL.isTy_str, DL.ixD_lst, DL.ixD_tup, DL.ixD_str, DL.ixD_dKs, DL.ixD_dKi, DL.inG_dKs, DL.inG_sign, DL.eqG_int, DL.eqG_str, DL.eqG_bl, DL.addD_int, DL.addD_str, DL.addD_lst, DL.addD_tup, DL.intD_int, DL.cmpD_int, DL.cmpD_str, DL.negD, DL.isNG1, DL.isN, DL.isiG, DL.isD, DL.isAnyG, DL.isAny, DL.isInsG, DL.lenG_str, DL.lenG_lst, DL.lenG_tup, DL.lenG_dK, DL.lenG_scr, DL.intG_int, DL.intG_bl, DL.intG_str, DL.strG, DL.absG, DL.two, DL.listG2_dK, DL.listG2_lst, DL.listG2_tup, DL.listG2_scr, DL.tupleG_lst, DL.tupleG_tup, DL.allG, DL.dSlice, DL.dNo, DL.dPart, DL.cutD_str, DL.cutD_lst, DL.cutD_tup, DL.dGNil, DL.dGCons, DL.dTupT, DL.dIter, DL.dRange1, DL.dRange2, DL.atI_0, DL.atI_1, DL.atI_2, DL.atI_3, DL.atI_4, DL.hotAt, DL.putAt, DL.SV.put, DL.dAppend, DL.dExtend, DL.sStore, DL.storeD, DL.sFldD, DL.putFD, DL.dFld, DL.splitG, DL.partitionG, DL.startsG, DL.joinG, DL.dClear, List.getElem?_cons_zero, List.getElem?_cons_succ, List.set_cons_zero, List.set_cons_succ, List.length_cons, List.length_nil, List.map_cons, List.map_nil, List.replicate_succ, List.replicate_zero, List.nil_append, List.cons_append, Nat.reduceAdd, Nat.reduceSub, Bool.bne_false, Bool.bne_true, Bool.not_true, Bool.not_false, decide_eq_true_eq, Bool.false_eq_true, reduceIte, and_true, true_and, if_true, if_false, decide_true, decide_false]
theorem toPs_strs : ∀ l : List Str, toPs (l.map D.str) = some (l.map PyData.str)
  | [] => rfl
  | x :: l => by rw [List.map_cons, toPs, toPs_strs l]; rfl
theorem depth_strs : ∀ l : List Str, PyData.depthAll (l.map PyData.str) = 0
  | [] => by simp [PyData.depthAll]
  | x :: l => by simp [PyData.depthAll, PyData.depth, depth_strs l]
theorem lay_strs : ∀ l : List Str, (∀ x ∈ l, ∀ c ∈ tl x, c < 0x110000) → PyData.canLayAll0 (l.map PyData.str) = true
  | [], _ => by simp [PyData.canLayAll0]
  | x :: l, h => by
    have e : PyData.strOk x = true := by
      show x.cps.all (· < 0x110000) = true
      rw [← Array.all_toList, List.all_eq_true]
      exact fun c hc => decide_eq_true (h x List.mem_cons_self c hc)
    simp [PyData.canLayAll0, PyData.canLay0, e, lay_strs l fun y hy => h y (List.mem_cons_of_mem _ hy)]
theorem eqvAll_strs : ∀ l : List Str, PyData.eqvAll (l.map PyData.str) (l.map PyData.str) = true
  | [] => by simp [PyData.eqvAll]
  | x :: l => by simp [PyData.eqvAll, PyData.eqv, eqvAll_strs l]
theorem eq_strs (neg : Bool) (l : List Str) (hx : ∀ x ∈ l, ∀ c ∈ tl x, c < 0x110000) (k : D → Prop) : eqG neg (.lst (l.map .str)) (.lst (l.map .str)) k = k (.bl (true != neg)) := by
  have e : eqD (.lst (l.map .str)) (.lst (l.map .str)) = some true := by
    have h1 : toP (.lst (l.map D.str)) = some (.list (l.map PyData.str)) := by rw [toP, toPs_strs]; rfl
    have h2 : SeqAt.shaped (.list (l.map PyData.str)) = true := by
      show ((PyData.list (l.map PyData.str)).canLay0 && decide ((PyData.list (l.map PyData.str)).depth ≤ 64)) = true
      simp [PyData.canLay0, PyData.depth, depth_strs, lay_strs l hx]
    have h3 : PyData.eqv (.list (l.map PyData.str)) (.list (l.map PyData.str)) = true := by simp [PyData.eqv, eqvAll_strs]
    have h0 : eqS (.lst (l.map D.str)) (.lst (l.map D.str)) = none := rfl
    unfold eqD
    rw [h0]
    simp only [h1, h2, h3, and_self, if_true]
  unfold eqG
  rw [e]
theorem h__law_holds : ∀ ds r, M__law_holds ds r → t__law_holds (endsP r) (startD N__law_holds.length ds) := by
  rintro _ _ ⟨r, w, t, h, rfl, rfl⟩
  have ek : (tabD t).map (fun p => kD p.1) = (names r w).map D.str := by
    rw [← h.keys, List.map_map]; unfold tabD; rw [List.map_map]; rfl
  have hl := names_len h.toSz
  have heq := eq_strs true (names r w) fun x hx c hc => by have := (st_len (names_st h.toSz hx)).2.2 c hc; omega
  simp only [DL.dVar, DL.dC, DL.dBin, DL.dUn, DL.dTest, DL.dIf, DL.dAnd, DL.dOr, DL.dNot, DL.dAndV, DL.dOrV, DL.dNotV, DL.dChain, DL.dNil, DL.dCons, DL.dTup, DL.dLst, DL.dDK, DL.dFz, DL.dCallL, DL.dCallP, DL.dCallN, DL.dCallT, DL.dCallTN, DL.dMake, DL.dProp, DL.dMeth, DL.dFmt, DL.dJs, DL.look, DL.lookL, DL.frz, DL.frzL, DL.startD, DL.startT, DL.sSeq, DL.sIf, DL.sRet, DL.sRetNew, DL.sRetN, DL.sAsg, DL.sNew, DL.sDrop, DL.sNext, DL.sPar, DL.sFor, DL.dSet, DL.endsP, DL.endsN, DL.endsT, DL.endsTN, DL.SV.toD, DL.Cell.toD, DL.isTy_str, DL.ixD_lst, DL.ixD_tup, DL.ixD_str, DL.ixD_dKs, DL.ixD_dKi, DL.inG_dKs, DL.inG_sign, DL.eqG_int, DL.eqG_str, DL.eqG_bl, DL.addD_int, DL.addD_str, DL.addD_lst, DL.addD_tup, DL.intD_int, DL.cmpD_int, DL.cmpD_str, DL.negD, DL.isNG1, DL.isN, DL.isiG, DL.isD, DL.isAnyG, DL.isAny, DL.isInsG, DL.lenG_str, DL.lenG_lst, DL.lenG_tup, DL.lenG_dK, DL.lenG_scr, DL.intG_int, DL.intG_bl, DL.intG_str, DL.strG, DL.absG, DL.two, DL.listG2_dK, DL.listG2_lst, DL.listG2_tup, DL.listG2_scr, DL.tupleG_lst, DL.tupleG_tup, DL.allG, DL.dSlice, DL.dNo, DL.dPart, DL.cutD_str, DL.cutD_lst, DL.cutD_tup, DL.dGNil, DL.dGCons, DL.dTupT, DL.dIter, DL.dRange1, DL.dRange2, DL.atI_0, DL.atI_1, DL.atI_2, DL.atI_3, DL.atI_4, DL.hotAt, DL.putAt, DL.SV.put, DL.dAppend, DL.dExtend, DL.sStore, DL.storeD, DL.sFldD, DL.putFD, DL.dFld, DL.splitG, DL.partitionG, DL.startsG, DL.joinG, DL.dClear, List.getElem?_cons_zero, List.getElem?_cons_succ, List.set_cons_zero, List.set_cons_succ, List.length_cons, List.length_nil, List.map_cons, List.map_nil, List.replicate_succ, List.replicate_zero, List.nil_append, List.cons_append, Nat.reduceAdd, Nat.reduceSub, Bool.bne_false, Bool.bne_true, Bool.not_true, Bool.not_false, decide_eq_true_eq, Bool.false_eq_true, reduceIte, and_true, true_and, if_true, if_false, decide_true, decide_false, t__law_holds]
  refine ⟨_, ⟨r, w, t, h, rfl, rfl⟩, ?_⟩
  refine ⟨_, ⟨r, w, t, h, rfl, rfl⟩, ?_⟩
  simp only [DL.dVar, DL.dC, DL.dBin, DL.dUn, DL.dTest, DL.dIf, DL.dAnd, DL.dOr, DL.dNot, DL.dAndV, DL.dOrV, DL.dNotV, DL.dChain, DL.dNil, DL.dCons, DL.dTup, DL.dLst, DL.dDK, DL.dFz, DL.dCallL, DL.dCallP, DL.dCallN, DL.dCallT, DL.dCallTN, DL.dMake, DL.dProp, DL.dMeth, DL.dFmt, DL.dJs, DL.look, DL.lookL, DL.frz, DL.frzL, DL.startD, DL.startT, DL.sSeq, DL.sIf, DL.sRet, DL.sRetNew, DL.sRetN, DL.sAsg, DL.sNew, DL.sDrop, DL.sNext, DL.sPar, DL.sFor, DL.dSet, DL.endsP, DL.endsN, DL.endsT, DL.endsTN, DL.SV.toD, DL.Cell.toD, DL.isTy_str, DL.ixD_lst, DL.ixD_tup, DL.ixD_str, DL.ixD_dKs, DL.ixD_dKi, DL.inG_dKs, DL.inG_sign, DL.eqG_int, DL.eqG_str, DL.eqG_bl, DL.addD_int, DL.addD_str, DL.addD_lst, DL.addD_tup, DL.intD_int, DL.cmpD_int, DL.cmpD_str, DL.negD, DL.isNG1, DL.isN, DL.isiG, DL.isD, DL.isAnyG, DL.isAny, DL.isInsG, DL.lenG_str, DL.lenG_lst, DL.lenG_tup, DL.lenG_dK, DL.lenG_scr, DL.intG_int, DL.intG_bl, DL.intG_str, DL.strG, DL.absG, DL.two, DL.listG2_dK, DL.listG2_lst, DL.listG2_tup, DL.listG2_scr, DL.tupleG_lst, DL.tupleG_tup, DL.allG, DL.dSlice, DL.dNo, DL.dPart, DL.cutD_str, DL.cutD_lst, DL.cutD_tup, DL.dGNil, DL.dGCons, DL.dTupT, DL.dIter, DL.dRange1, DL.dRange2, DL.atI_0, DL.atI_1, DL.atI_2, DL.atI_3, DL.atI_4, DL.hotAt, DL.putAt, DL.SV.put, DL.dAppend, DL.dExtend, DL.sStore, DL.storeD, DL.sFldD, DL.putFD, DL.dFld, DL.splitG, DL.partitionG, DL.startsG, DL.joinG, DL.dClear, List.getElem?_cons_zero, List.getElem?_cons_succ, List.set_cons_zero, List.set_cons_succ, List.length_cons, List.length_nil, List.map_cons, List.map_nil, List.replicate_succ, List.replicate_zero, List.nil_append, List.cons_append, Nat.reduceAdd, Nat.reduceSub, Bool.bne_false, Bool.bne_true, Bool.not_true, Bool.not_false, decide_eq_true_eq, Bool.false_eq_true, reduceIte, and_true, true_and, if_true, if_false, decide_true, decide_false]
  refine ⟨_, ⟨r, w, t, h, rfl, rfl⟩, ?_⟩
  simp only [DL.dVar, DL.dC, DL.dBin, DL.dUn, DL.dTest, DL.dIf, DL.dAnd, DL.dOr, DL.dNot, DL.dAndV, DL.dOrV, DL.dNotV, DL.dChain, DL.dNil, DL.dCons, DL.dTup, DL.dLst, DL.dDK, DL.dFz, DL.dCallL, DL.dCallP, DL.dCallN, DL.dCallT, DL.dCallTN, DL.dMake, DL.dProp, DL.dMeth, DL.dFmt, DL.dJs, DL.look, DL.lookL, DL.frz, DL.frzL, DL.startD, DL.startT, DL.sSeq, DL.sIf, DL.sRet, DL.sRetNew, DL.sRetN, DL.sAsg, DL.sNew, DL.sDrop, DL.sNext, DL.sPar, DL.sFor, DL.dSet, DL.endsP, DL.endsN, DL.endsT, DL.endsTN, DL.SV.toD, DL.Cell.toD, DL.isTy_str, DL.ixD_lst, DL.ixD_tup, DL.ixD_str, DL.ixD_dKs, DL.ixD_dKi, DL.inG_dKs, DL.inG_sign, DL.eqG_int, DL.eqG_str, DL.eqG_bl, DL.addD_int, DL.addD_str, DL.addD_lst, DL.addD_tup, DL.intD_int, DL.cmpD_int, DL.cmpD_str, DL.negD, DL.isNG1, DL.isN, DL.isiG, DL.isD, DL.isAnyG, DL.isAny, DL.isInsG, DL.lenG_str, DL.lenG_lst, DL.lenG_tup, DL.lenG_dK, DL.lenG_scr, DL.intG_int, DL.intG_bl, DL.intG_str, DL.strG, DL.absG, DL.two, DL.listG2_dK, DL.listG2_lst, DL.listG2_tup, DL.listG2_scr, DL.tupleG_lst, DL.tupleG_tup, DL.allG, DL.dSlice, DL.dNo, DL.dPart, DL.cutD_str, DL.cutD_lst, DL.cutD_tup, DL.dGNil, DL.dGCons, DL.dTupT, DL.dIter, DL.dRange1, DL.dRange2, DL.atI_0, DL.atI_1, DL.atI_2, DL.atI_3, DL.atI_4, DL.hotAt, DL.putAt, DL.SV.put, DL.dAppend, DL.dExtend, DL.sStore, DL.storeD, DL.sFldD, DL.putFD, DL.dFld, DL.splitG, DL.partitionG, DL.startsG, DL.joinG, DL.dClear, List.getElem?_cons_zero, List.getElem?_cons_succ, List.set_cons_zero, List.set_cons_succ, List.length_cons, List.length_nil, List.map_cons, List.map_nil, List.replicate_succ, List.replicate_zero, List.nil_append, List.cons_append, Nat.reduceAdd, Nat.reduceSub, Bool.bne_false, Bool.bne_true, Bool.not_true, Bool.not_false, decide_eq_true_eq, Bool.false_eq_true, reduceIte, and_true, true_and, if_true, if_false, decide_true, decide_false, dEqI, priceD]
  refine ⟨_, ⟨r, w, t, t, h, h, rfl, rfl⟩, ?_⟩
  rw [decide_eq_true rfl]
  simp only [DL.dVar, DL.dC, DL.dBin, DL.dUn, DL.dTest, DL.dIf, DL.dAnd, DL.dOr, DL.dNot, DL.dAndV, DL.dOrV, DL.dNotV, DL.dChain, DL.dNil, DL.dCons, DL.dTup, DL.dLst, DL.dDK, DL.dFz, DL.dCallL, DL.dCallP, DL.dCallN, DL.dCallT, DL.dCallTN, DL.dMake, DL.dProp, DL.dMeth, DL.dFmt, DL.dJs, DL.look, DL.lookL, DL.frz, DL.frzL, DL.startD, DL.startT, DL.sSeq, DL.sIf, DL.sRet, DL.sRetNew, DL.sRetN, DL.sAsg, DL.sNew, DL.sDrop, DL.sNext, DL.sPar, DL.sFor, DL.dSet, DL.endsP, DL.endsN, DL.endsT, DL.endsTN, DL.SV.toD, DL.Cell.toD, DL.isTy_str, DL.ixD_lst, DL.ixD_tup, DL.ixD_str, DL.ixD_dKs, DL.ixD_dKi, DL.inG_dKs, DL.inG_sign, DL.eqG_int, DL.eqG_str, DL.eqG_bl, DL.addD_int, DL.addD_str, DL.addD_lst, DL.addD_tup, DL.intD_int, DL.cmpD_int, DL.cmpD_str, DL.negD, DL.isNG1, DL.isN, DL.isiG, DL.isD, DL.isAnyG, DL.isAny, DL.isInsG, DL.lenG_str, DL.lenG_lst, DL.lenG_tup, DL.lenG_dK, DL.lenG_scr, DL.intG_int, DL.intG_bl, DL.intG_str, DL.strG, DL.absG, DL.two, DL.listG2_dK, DL.listG2_lst, DL.listG2_tup, DL.listG2_scr, DL.tupleG_lst, DL.tupleG_tup, DL.allG, DL.dSlice, DL.dNo, DL.dPart, DL.cutD_str, DL.cutD_lst, DL.cutD_tup, DL.dGNil, DL.dGCons, DL.dTupT, DL.dIter, DL.dRange1, DL.dRange2, DL.atI_0, DL.atI_1, DL.atI_2, DL.atI_3, DL.atI_4, DL.hotAt, DL.putAt, DL.SV.put, DL.dAppend, DL.dExtend, DL.sStore, DL.storeD, DL.sFldD, DL.putFD, DL.dFld, DL.splitG, DL.partitionG, DL.startsG, DL.joinG, DL.dClear, List.getElem?_cons_zero, List.getElem?_cons_succ, List.set_cons_zero, List.set_cons_succ, List.length_cons, List.length_nil, List.map_cons, List.map_nil, List.replicate_succ, List.replicate_zero, List.nil_append, List.cons_append, Nat.reduceAdd, Nat.reduceSub, Bool.bne_false, Bool.bne_true, Bool.not_true, Bool.not_false, decide_eq_true_eq, Bool.false_eq_true, reduceIte, and_true, true_and, if_true, if_false, decide_true, decide_false]
  refine ⟨_, ⟨r, w, t, t, h, h, rfl, rfl⟩, ?_⟩
  rw [decide_eq_true rfl]
  simp only [DL.dVar, DL.dC, DL.dBin, DL.dUn, DL.dTest, DL.dIf, DL.dAnd, DL.dOr, DL.dNot, DL.dAndV, DL.dOrV, DL.dNotV, DL.dChain, DL.dNil, DL.dCons, DL.dTup, DL.dLst, DL.dDK, DL.dFz, DL.dCallL, DL.dCallP, DL.dCallN, DL.dCallT, DL.dCallTN, DL.dMake, DL.dProp, DL.dMeth, DL.dFmt, DL.dJs, DL.look, DL.lookL, DL.frz, DL.frzL, DL.startD, DL.startT, DL.sSeq, DL.sIf, DL.sRet, DL.sRetNew, DL.sRetN, DL.sAsg, DL.sNew, DL.sDrop, DL.sNext, DL.sPar, DL.sFor, DL.dSet, DL.endsP, DL.endsN, DL.endsT, DL.endsTN, DL.SV.toD, DL.Cell.toD, DL.isTy_str, DL.ixD_lst, DL.ixD_tup, DL.ixD_str, DL.ixD_dKs, DL.ixD_dKi, DL.inG_dKs, DL.inG_sign, DL.eqG_int, DL.eqG_str, DL.eqG_bl, DL.addD_int, DL.addD_str, DL.addD_lst, DL.addD_tup, DL.intD_int, DL.cmpD_int, DL.cmpD_str, DL.negD, DL.isNG1, DL.isN, DL.isiG, DL.isD, DL.isAnyG, DL.isAny, DL.isInsG, DL.lenG_str, DL.lenG_lst, DL.lenG_tup, DL.lenG_dK, DL.lenG_scr, DL.intG_int, DL.intG_bl, DL.intG_str, DL.strG, DL.absG, DL.two, DL.listG2_dK, DL.listG2_lst, DL.listG2_tup, DL.listG2_scr, DL.tupleG_lst, DL.tupleG_tup, DL.allG, DL.dSlice, DL.dNo, DL.dPart, DL.cutD_str, DL.cutD_lst, DL.cutD_tup, DL.dGNil, DL.dGCons, DL.dTupT, DL.dIter, DL.dRange1, DL.dRange2, DL.atI_0, DL.atI_1, DL.atI_2, DL.atI_3, DL.atI_4, DL.hotAt, DL.putAt, DL.SV.put, DL.dAppend, DL.dExtend, DL.sStore, DL.storeD, DL.sFldD, DL.putFD, DL.dFld, DL.splitG, DL.partitionG, DL.startsG, DL.joinG, DL.dClear, List.getElem?_cons_zero, List.getElem?_cons_succ, List.set_cons_zero, List.set_cons_succ, List.length_cons, List.length_nil, List.map_cons, List.map_nil, List.replicate_succ, List.replicate_zero, List.nil_append, List.cons_append, Nat.reduceAdd, Nat.reduceSub, Bool.bne_false, Bool.bne_true, Bool.not_true, Bool.not_false, decide_eq_true_eq, Bool.false_eq_true, reduceIte, and_true, true_and, if_true, if_false, decide_true, decide_false, look_rows, look_width]
  refine ⟨by decide, by decide, _, ⟨.str r, .int w, .inr ⟨r, rfl⟩, .inl ⟨w, rfl⟩, .inr rfl, rfl⟩, ?_⟩
  simp only [DL.dVar, DL.dC, DL.dBin, DL.dUn, DL.dTest, DL.dIf, DL.dAnd, DL.dOr, DL.dNot, DL.dAndV, DL.dOrV, DL.dNotV, DL.dChain, DL.dNil, DL.dCons, DL.dTup, DL.dLst, DL.dDK, DL.dFz, DL.dCallL, DL.dCallP, DL.dCallN, DL.dCallT, DL.dCallTN, DL.dMake, DL.dProp, DL.dMeth, DL.dFmt, DL.dJs, DL.look, DL.lookL, DL.frz, DL.frzL, DL.startD, DL.startT, DL.sSeq, DL.sIf, DL.sRet, DL.sRetNew, DL.sRetN, DL.sAsg, DL.sNew, DL.sDrop, DL.sNext, DL.sPar, DL.sFor, DL.dSet, DL.endsP, DL.endsN, DL.endsT, DL.endsTN, DL.SV.toD, DL.Cell.toD, DL.isTy_str, DL.ixD_lst, DL.ixD_tup, DL.ixD_str, DL.ixD_dKs, DL.ixD_dKi, DL.inG_dKs, DL.inG_sign, DL.eqG_int, DL.eqG_str, DL.eqG_bl, DL.addD_int, DL.addD_str, DL.addD_lst, DL.addD_tup, DL.intD_int, DL.cmpD_int, DL.cmpD_str, DL.negD, DL.isNG1, DL.isN, DL.isiG, DL.isD, DL.isAnyG, DL.isAny, DL.isInsG, DL.lenG_str, DL.lenG_lst, DL.lenG_tup, DL.lenG_dK, DL.lenG_scr, DL.intG_int, DL.intG_bl, DL.intG_str, DL.strG, DL.absG, DL.two, DL.listG2_dK, DL.listG2_lst, DL.listG2_tup, DL.listG2_scr, DL.tupleG_lst, DL.tupleG_tup, DL.allG, DL.dSlice, DL.dNo, DL.dPart, DL.cutD_str, DL.cutD_lst, DL.cutD_tup, DL.dGNil, DL.dGCons, DL.dTupT, DL.dIter, DL.dRange1, DL.dRange2, DL.atI_0, DL.atI_1, DL.atI_2, DL.atI_3, DL.atI_4, DL.hotAt, DL.putAt, DL.SV.put, DL.dAppend, DL.dExtend, DL.sStore, DL.storeD, DL.sFldD, DL.putFD, DL.dFld, DL.splitG, DL.partitionG, DL.startsG, DL.joinG, DL.dClear, List.getElem?_cons_zero, List.getElem?_cons_succ, List.set_cons_zero, List.set_cons_succ, List.length_cons, List.length_nil, List.map_cons, List.map_nil, List.replicate_succ, List.replicate_zero, List.nil_append, List.cons_append, Nat.reduceAdd, Nat.reduceSub, Bool.bne_false, Bool.bne_true, Bool.not_true, Bool.not_false, decide_eq_true_eq, Bool.false_eq_true, reduceIte, and_true, true_and, if_true, if_false, decide_true, decide_false]
  refine ⟨_, ⟨r, w, t, h, rfl, rfl⟩, ?_⟩
  simp only [DL.dVar, DL.dC, DL.dBin, DL.dUn, DL.dTest, DL.dIf, DL.dAnd, DL.dOr, DL.dNot, DL.dAndV, DL.dOrV, DL.dNotV, DL.dChain, DL.dNil, DL.dCons, DL.dTup, DL.dLst, DL.dDK, DL.dFz, DL.dCallL, DL.dCallP, DL.dCallN, DL.dCallT, DL.dCallTN, DL.dMake, DL.dProp, DL.dMeth, DL.dFmt, DL.dJs, DL.look, DL.lookL, DL.frz, DL.frzL, DL.startD, DL.startT, DL.sSeq, DL.sIf, DL.sRet, DL.sRetNew, DL.sRetN, DL.sAsg, DL.sNew, DL.sDrop, DL.sNext, DL.sPar, DL.sFor, DL.dSet, DL.endsP, DL.endsN, DL.endsT, DL.endsTN, DL.SV.toD, DL.Cell.toD, DL.isTy_str, DL.ixD_lst, DL.ixD_tup, DL.ixD_str, DL.ixD_dKs, DL.ixD_dKi, DL.inG_dKs, DL.inG_sign, DL.eqG_int, DL.eqG_str, DL.eqG_bl, DL.addD_int, DL.addD_str, DL.addD_lst, DL.addD_tup, DL.intD_int, DL.cmpD_int, DL.cmpD_str, DL.negD, DL.isNG1, DL.isN, DL.isiG, DL.isD, DL.isAnyG, DL.isAny, DL.isInsG, DL.lenG_str, DL.lenG_lst, DL.lenG_tup, DL.lenG_dK, DL.lenG_scr, DL.intG_int, DL.intG_bl, DL.intG_str, DL.strG, DL.absG, DL.two, DL.listG2_dK, DL.listG2_lst, DL.listG2_tup, DL.listG2_scr, DL.tupleG_lst, DL.tupleG_tup, DL.allG, DL.dSlice, DL.dNo, DL.dPart, DL.cutD_str, DL.cutD_lst, DL.cutD_tup, DL.dGNil, DL.dGCons, DL.dTupT, DL.dIter, DL.dRange1, DL.dRange2, DL.atI_0, DL.atI_1, DL.atI_2, DL.atI_3, DL.atI_4, DL.hotAt, DL.putAt, DL.SV.put, DL.dAppend, DL.dExtend, DL.sStore, DL.storeD, DL.sFldD, DL.putFD, DL.dFld, DL.splitG, DL.partitionG, DL.startsG, DL.joinG, DL.dClear, List.getElem?_cons_zero, List.getElem?_cons_succ, List.set_cons_zero, List.set_cons_succ, List.length_cons, List.length_nil, List.map_cons, List.map_nil, List.replicate_succ, List.replicate_zero, List.nil_append, List.cons_append, Nat.reduceAdd, Nat.reduceSub, Bool.bne_false, Bool.bne_true, Bool.not_true, Bool.not_false, decide_eq_true_eq, Bool.false_eq_true, reduceIte, and_true, true_and, if_true, if_false, decide_true, decide_false, ek, sortedG2, sortedG, strsD_map, List.length_map, sort_names, heq, dLc]
  refine ⟨hl, hl, ?_⟩
  refine lcGo_fm (f := fun _ => none) rfl _ _ (fun d hd Q2 Q3 h3 => ?_) (by rw [List.length_map, List.length_nil]; exact fit (by omega)) ?_
  · obtain ⟨x, hx, e⟩ := List.mem_map.mp hd
    subst e
    obtain ⟨p, hp, e⟩ := name_in h hx
    subst e
    have hg := tab_get h hp
    simp only [DL.dVar, DL.dC, DL.dBin, DL.dUn, DL.dTest, DL.dIf, DL.dAnd, DL.dOr, DL.dNot, DL.dAndV, DL.dOrV, DL.dNotV, DL.dChain, DL.dNil, DL.dCons, DL.dTup, DL.dLst, DL.dDK, DL.dFz, DL.dCallL, DL.dCallP, DL.dCallN, DL.dCallT, DL.dCallTN, DL.dMake, DL.dProp, DL.dMeth, DL.dFmt, DL.dJs, DL.look, DL.lookL, DL.frz, DL.frzL, DL.startD, DL.startT, DL.sSeq, DL.sIf, DL.sRet, DL.sRetNew, DL.sRetN, DL.sAsg, DL.sNew, DL.sDrop, DL.sNext, DL.sPar, DL.sFor, DL.dSet, DL.endsP, DL.endsN, DL.endsT, DL.endsTN, DL.SV.toD, DL.Cell.toD, DL.isTy_str, DL.ixD_lst, DL.ixD_tup, DL.ixD_str, DL.ixD_dKs, DL.ixD_dKi, DL.inG_dKs, DL.inG_sign, DL.eqG_int, DL.eqG_str, DL.eqG_bl, DL.addD_int, DL.addD_str, DL.addD_lst, DL.addD_tup, DL.intD_int, DL.cmpD_int, DL.cmpD_str, DL.negD, DL.isNG1, DL.isN, DL.isiG, DL.isD, DL.isAnyG, DL.isAny, DL.isInsG, DL.lenG_str, DL.lenG_lst, DL.lenG_tup, DL.lenG_dK, DL.lenG_scr, DL.intG_int, DL.intG_bl, DL.intG_str, DL.strG, DL.absG, DL.two, DL.listG2_dK, DL.listG2_lst, DL.listG2_tup, DL.listG2_scr, DL.tupleG_lst, DL.tupleG_tup, DL.allG, DL.dSlice, DL.dNo, DL.dPart, DL.cutD_str, DL.cutD_lst, DL.cutD_tup, DL.dGNil, DL.dGCons, DL.dTupT, DL.dIter, DL.dRange1, DL.dRange2, DL.atI_0, DL.atI_1, DL.atI_2, DL.atI_3, DL.atI_4, DL.hotAt, DL.putAt, DL.SV.put, DL.dAppend, DL.dExtend, DL.sStore, DL.storeD, DL.sFldD, DL.putFD, DL.dFld, DL.splitG, DL.partitionG, DL.startsG, DL.joinG, DL.dClear, List.getElem?_cons_zero, List.getElem?_cons_succ, List.set_cons_zero, List.set_cons_succ, List.length_cons, List.length_nil, List.map_cons, List.map_nil, List.replicate_succ, List.replicate_zero, List.nil_append, List.cons_append, Nat.reduceAdd, Nat.reduceSub, Bool.bne_false, Bool.bne_true, Bool.not_true, Bool.not_false, decide_eq_true_eq, Bool.false_eq_true, reduceIte, and_true, true_and, if_true, if_false, decide_true, decide_false, wipeE, back, hg]
    refine ⟨_, ⟨.int p.2.1, .int p.2.2, .inl ⟨_, rfl⟩, .inl ⟨_, rfl⟩, .inr rfl, rfl⟩, ?_⟩
    simp only [DL.dVar, DL.dC, DL.dBin, DL.dUn, DL.dTest, DL.dIf, DL.dAnd, DL.dOr, DL.dNot, DL.dAndV, DL.dOrV, DL.dNotV, DL.dChain, DL.dNil, DL.dCons, DL.dTup, DL.dLst, DL.dDK, DL.dFz, DL.dCallL, DL.dCallP, DL.dCallN, DL.dCallT, DL.dCallTN, DL.dMake, DL.dProp, DL.dMeth, DL.dFmt, DL.dJs, DL.look, DL.lookL, DL.frz, DL.frzL, DL.startD, DL.startT, DL.sSeq, DL.sIf, DL.sRet, DL.sRetNew, DL.sRetN, DL.sAsg, DL.sNew, DL.sDrop, DL.sNext, DL.sPar, DL.sFor, DL.dSet, DL.endsP, DL.endsN, DL.endsT, DL.endsTN, DL.SV.toD, DL.Cell.toD, DL.isTy_str, DL.ixD_lst, DL.ixD_tup, DL.ixD_str, DL.ixD_dKs, DL.ixD_dKi, DL.inG_dKs, DL.inG_sign, DL.eqG_int, DL.eqG_str, DL.eqG_bl, DL.addD_int, DL.addD_str, DL.addD_lst, DL.addD_tup, DL.intD_int, DL.cmpD_int, DL.cmpD_str, DL.negD, DL.isNG1, DL.isN, DL.isiG, DL.isD, DL.isAnyG, DL.isAny, DL.isInsG, DL.lenG_str, DL.lenG_lst, DL.lenG_tup, DL.lenG_dK, DL.lenG_scr, DL.intG_int, DL.intG_bl, DL.intG_str, DL.strG, DL.absG, DL.two, DL.listG2_dK, DL.listG2_lst, DL.listG2_tup, DL.listG2_scr, DL.tupleG_lst, DL.tupleG_tup, DL.allG, DL.dSlice, DL.dNo, DL.dPart, DL.cutD_str, DL.cutD_lst, DL.cutD_tup, DL.dGNil, DL.dGCons, DL.dTupT, DL.dIter, DL.dRange1, DL.dRange2, DL.atI_0, DL.atI_1, DL.atI_2, DL.atI_3, DL.atI_4, DL.hotAt, DL.putAt, DL.SV.put, DL.dAppend, DL.dExtend, DL.sStore, DL.storeD, DL.sFldD, DL.putFD, DL.dFld, DL.splitG, DL.partitionG, DL.startsG, DL.joinG, DL.dClear, List.getElem?_cons_zero, List.getElem?_cons_succ, List.set_cons_zero, List.set_cons_succ, List.length_cons, List.length_nil, List.map_cons, List.map_nil, List.replicate_succ, List.replicate_zero, List.nil_append, List.cons_append, Nat.reduceAdd, Nat.reduceSub, Bool.bne_false, Bool.bne_true, Bool.not_true, Bool.not_false, decide_eq_true_eq, Bool.false_eq_true, reduceIte, and_true, true_and, if_true, if_false, decide_true, decide_false, back]
    exact h3
  · have e : ((names r w).map D.str).filterMap (fun _ => (none : Option D)) = [] := by induction (names r w) <;> simp_all
    rw [List.nil_append, e]
    simp only [DL.dVar, DL.dC, DL.dBin, DL.dUn, DL.dTest, DL.dIf, DL.dAnd, DL.dOr, DL.dNot, DL.dAndV, DL.dOrV, DL.dNotV, DL.dChain, DL.dNil, DL.dCons, DL.dTup, DL.dLst, DL.dDK, DL.dFz, DL.dCallL, DL.dCallP, DL.dCallN, DL.dCallT, DL.dCallTN, DL.dMake, DL.dProp, DL.dMeth, DL.dFmt, DL.dJs, DL.look, DL.lookL, DL.frz, DL.frzL, DL.startD, DL.startT, DL.sSeq, DL.sIf, DL.sRet, DL.sRetNew, DL.sRetN, DL.sAsg, DL.sNew, DL.sDrop, DL.sNext, DL.sPar, DL.sFor, DL.dSet, DL.endsP, DL.endsN, DL.endsT, DL.endsTN, DL.SV.toD, DL.Cell.toD, DL.isTy_str, DL.ixD_lst, DL.ixD_tup, DL.ixD_str, DL.ixD_dKs, DL.ixD_dKi, DL.inG_dKs, DL.inG_sign, DL.eqG_int, DL.eqG_str, DL.eqG_bl, DL.addD_int, DL.addD_str, DL.addD_lst, DL.addD_tup, DL.intD_int, DL.cmpD_int, DL.cmpD_str, DL.negD, DL.isNG1, DL.isN, DL.isiG, DL.isD, DL.isAnyG, DL.isAny, DL.isInsG, DL.lenG_str, DL.lenG_lst, DL.lenG_tup, DL.lenG_dK, DL.lenG_scr, DL.intG_int, DL.intG_bl, DL.intG_str, DL.strG, DL.absG, DL.two, DL.listG2_dK, DL.listG2_lst, DL.listG2_tup, DL.listG2_scr, DL.tupleG_lst, DL.tupleG_tup, DL.allG, DL.dSlice, DL.dNo, DL.dPart, DL.cutD_str, DL.cutD_lst, DL.cutD_tup, DL.dGNil, DL.dGCons, DL.dTupT, DL.dIter, DL.dRange1, DL.dRange2, DL.atI_0, DL.atI_1, DL.atI_2, DL.atI_3, DL.atI_4, DL.hotAt, DL.putAt, DL.SV.put, DL.dAppend, DL.dExtend, DL.sStore, DL.storeD, DL.sFldD, DL.putFD, DL.dFld, DL.splitG, DL.partitionG, DL.startsG, DL.joinG, DL.dClear, List.getElem?_cons_zero, List.getElem?_cons_succ, List.set_cons_zero, List.set_cons_succ, List.length_cons, List.length_nil, List.map_cons, List.map_nil, List.replicate_succ, List.replicate_zero, List.nil_append, List.cons_append, Nat.reduceAdd, Nat.reduceSub, Bool.bne_false, Bool.bne_true, Bool.not_true, Bool.not_false, decide_eq_true_eq, Bool.false_eq_true, reduceIte, and_true, true_and, if_true, if_false, decide_true, decide_false]
    refine ⟨_, ⟨r, w, t, h, rfl, rfl⟩, ?_⟩
    simp only [DL.dVar, DL.dC, DL.dBin, DL.dUn, DL.dTest, DL.dIf, DL.dAnd, DL.dOr, DL.dNot, DL.dAndV, DL.dOrV, DL.dNotV, DL.dChain, DL.dNil, DL.dCons, DL.dTup, DL.dLst, DL.dDK, DL.dFz, DL.dCallL, DL.dCallP, DL.dCallN, DL.dCallT, DL.dCallTN, DL.dMake, DL.dProp, DL.dMeth, DL.dFmt, DL.dJs, DL.look, DL.lookL, DL.frz, DL.frzL, DL.startD, DL.startT, DL.sSeq, DL.sIf, DL.sRet, DL.sRetNew, DL.sRetN, DL.sAsg, DL.sNew, DL.sDrop, DL.sNext, DL.sPar, DL.sFor, DL.dSet, DL.endsP, DL.endsN, DL.endsT, DL.endsTN, DL.SV.toD, DL.Cell.toD, DL.isTy_str, DL.ixD_lst, DL.ixD_tup, DL.ixD_str, DL.ixD_dKs, DL.ixD_dKi, DL.inG_dKs, DL.inG_sign, DL.eqG_int, DL.eqG_str, DL.eqG_bl, DL.addD_int, DL.addD_str, DL.addD_lst, DL.addD_tup, DL.intD_int, DL.cmpD_int, DL.cmpD_str, DL.negD, DL.isNG1, DL.isN, DL.isiG, DL.isD, DL.isAnyG, DL.isAny, DL.isInsG, DL.lenG_str, DL.lenG_lst, DL.lenG_tup, DL.lenG_dK, DL.lenG_scr, DL.intG_int, DL.intG_bl, DL.intG_str, DL.strG, DL.absG, DL.two, DL.listG2_dK, DL.listG2_lst, DL.listG2_tup, DL.listG2_scr, DL.tupleG_lst, DL.tupleG_tup, DL.allG, DL.dSlice, DL.dNo, DL.dPart, DL.cutD_str, DL.cutD_lst, DL.cutD_tup, DL.dGNil, DL.dGCons, DL.dTupT, DL.dIter, DL.dRange1, DL.dRange2, DL.atI_0, DL.atI_1, DL.atI_2, DL.atI_3, DL.atI_4, DL.hotAt, DL.putAt, DL.SV.put, DL.dAppend, DL.dExtend, DL.sStore, DL.storeD, DL.sFldD, DL.putFD, DL.dFld, DL.splitG, DL.partitionG, DL.startsG, DL.joinG, DL.dClear, List.getElem?_cons_zero, List.getElem?_cons_succ, List.set_cons_zero, List.set_cons_succ, List.length_cons, List.length_nil, List.map_cons, List.map_nil, List.replicate_succ, List.replicate_zero, List.nil_append, List.cons_append, Nat.reduceAdd, Nat.reduceSub, Bool.bne_false, Bool.bne_true, Bool.not_true, Bool.not_false, decide_eq_true_eq, Bool.false_eq_true, reduceIte, and_true, true_and, if_true, if_false, decide_true, decide_false]
end K86

set_option Elab.async false
set_option linter.all false
set_option maxRecDepth 100000
set_option maxHeartbeats 2000000
namespace K86
open PySem L2 DL TL
variable {r : Str} {w : Nat} {t : Tab}
theorem rowsOf_ok {T : Tape} {m : Int} (h : T.ok) (m1 : 1 ≤ m) (m4 : m ≤ 4) : RowsOk (rowsOf T m).1 ∧ ((tl (rowsOf T m).1).length : Int) ≤ m ∧ (rowsOf T m).2.ok ∧ (rowsOf T m).2.turn ≤ T.turn + 3 := by
  have p1 := pick_ok (s := 26) h (by decide)
  have p2 := pick_ok (s := 6) p1.ok (by decide)
  have p3 := pick_ok (s := m) p2.ok (by omega)
  have c0 := p3.lo
  have c1 := p3.hi
  obtain ⟨h1, h2⟩ := rows_ok (a := (pick T 26).1) p2.lo p2.hi c0 (by omega)
  rw [rowsOf_eq]
  refine ⟨h1, ?_, p3.ok, ?_⟩
  · show ((tl (Txt.join Str.empty (sortS (rowL _ _ _)))).length : Int) ≤ m
    rw [h2]; omega
  · have := p1.turn; have := p2.turn; have := p3.turn
    show (pick (pick (pick T 26).2 6).2 m).2.turn ≤ _
    omega
theorem widths_at {p : Int} (h0 : 0 ≤ p) (h1 : p < 3) : atI [D.int 4, .int 4, .int 3] (1 + p - 1) = some (.int (if p = 2 then 3 else 4)) := by
  obtain z | z | z : p = 0 ∨ p = 1 ∨ p = 2 := by omega
  all_goals subst z; rfl
theorem tab_mk (s : Sz r w) {T : Tape} (h : T.ok) : TabOk r w (fracsOf (names r w) T).1 := { s with keys := fracs_keys _ _, good := (fracs_ok _ _ h).2.2 }
def updT (t : Tab) (x : Str) (f : Int × Int) : Tab := t.map fun p => if p.1 = x then (p.1, f) else p
theorem upd_ok (h : TabOk r w t) (x : Str) {f : Int × Int} (hf : FrOk f) : TabOk r w (updT t x f) := by
  refine { h.toSz with keys := ?_, good := fun p hp => ?_ }
  · rw [← h.keys]
    unfold updT
    rw [List.map_map]
    refine List.map_congr_left fun p _ => ?_
    show (if p.1 = x then (p.1, f) else p).1 = p.1
    split <;> rfl
  · unfold updT at hp
    obtain ⟨q, hq, e⟩ := List.mem_map.mp hp
    subst e
    split
    · exact hf
    · exact h.good q hq
theorem upd_put (t : Tab) (x : Str) (f : Int × Int) (h : x ∈ t.map (·.1)) : dput (tabD t) (.inr x) (frD f) = tabD (updT t x f) := by
  unfold dput
  rw [if_pos]
  · unfold tabD updT
    rw [List.map_map, List.map_map]
    refine List.map_congr_left fun p _ => ?_
    show (if (Sum.inr p.1 : Key) = .inr x then ((Sum.inr p.1 : Key), frD f) else (.inr p.1, frD p.2)) = (Sum.inr (if p.1 = x then (p.1, f) else p).1, frD (if p.1 = x then (p.1, f) else p).2)
    by_cases z : p.1 = x
    · rw [if_pos (by rw [z]), if_pos z]
    · rw [if_neg (fun e => z (by injection e)), if_neg z]
  · obtain ⟨p, hp, e⟩ := List.mem_map.mp h
    refine List.any_eq_true.mpr ⟨(.inr p.1, frD p.2), List.mem_map.mpr ⟨p, hp, rfl⟩, ?_⟩
    exact decide_eq_true (by rw [e])
theorem copy_loop {D' : DEnds} {s0 s1 s2 s3 s7 s8 s9 : Option SV} (h : TabOk r w t) : ∀ (s pre : Tab) (v : Option SV), pre ++ s = t →
    (∀ v, D'.nx [s0, s1, s2, s3, some (.own (.dK (tabD t))), some (.own (.dK (tabD t))), v, s7, s8, s9]) →
    forGo (dSet 6) (sStore NW 5 (dBin (ixD NW) (dVar 4) (dVar 6)) (dVar 6)) (s.map fun p => .str p.1) D' [s0, s1, s2, s3, some (.own (.dK (tabD t))), some (.own (.dK (tabD pre))), v, s7, s8, s9] := by
  intro s
  induction s with
  | nil =>
    intro pre v hp k
    rw [List.append_nil] at hp
    subst hp
    exact k v
  | cons p s ih =>
    intro pre v hp k
    have hpt : p ∈ t := by rw [← hp]; simp
    have hg := tab_get h hpt
    have ht := tab_lt h
    have hpl : pre.length < t.length := by rw [← hp, List.length_append, List.length_cons]; omega
    have hsz : (tabD pre).length < sizeLine := by
      unfold tabD; rw [List.length_map]; exact Nat.lt_of_lt_of_le (show pre.length < 64 by omega) (by decide)
    have hn := names_nodup h.toSz
    rw [← h.keys, ← hp, List.map_append, List.map_cons] at hn
    have hnp : p.1 ∉ pre.map (·.1) := fun z => (List.nodup_append.mp hn).2.2 _ z _ List.mem_cons_self rfl
    have e := tabD_snoc pre p hnp
    unfold frD at e hg
    simp only [List.map_cons]
    unfold forGo
    simp only [DL.dVar, DL.dC, DL.dBin, DL.dUn, DL.dTest, DL.dIf, DL.dAnd, DL.dOr, DL.dNot, DL.dAndV, DL.dOrV, DL.dNotV, DL.dChain, DL.dNil, DL.dCons, DL.dTup, DL.dLst, DL.dDK, DL.dFz, DL.dCallL, DL.dCallP, DL.dCallN, DL.dCallT, DL.dCallTN, DL.dMake, DL.dProp, DL.dMeth, DL.dFmt, DL.dJs, DL.look, DL.lookL, DL.frz, DL.frzL, DL.startD, DL.startT, DL.sSeq, DL.sIf, DL.sRet, DL.sRetNew, DL.sRetN, DL.sAsg, DL.sNew, DL.sDrop, DL.sNext, DL.sPar, DL.sFor, DL.dSet, DL.endsP, DL.endsN, DL.endsT, DL.endsTN, DL.SV.toD, DL.Cell.toD, DL.isTy_str, DL.ixD_lst, DL.ixD_tup, DL.ixD_str, DL.ixD_dKs, DL.ixD_dKi, DL.inG_dKs, DL.inG_sign, DL.eqG_int, DL.eqG_str, DL.eqG_bl, DL.addD_int, DL.addD_str, DL.addD_lst, DL.addD_tup, DL.intD_int, DL.cmpD_int, DL.cmpD_str, DL.negD, DL.isNG1, DL.isN, DL.isiG, DL.isD, DL.isAnyG, DL.isAny, DL.isInsG, DL.lenG_str, DL.lenG_lst, DL.lenG_tup, DL.lenG_dK, DL.lenG_scr, DL.intG_int, DL.intG_bl, DL.intG_str, DL.strG, DL.absG, DL.two, DL.listG2_dK, DL.listG2_lst, DL.listG2_tup, DL.listG2_scr, DL.tupleG_lst, DL.tupleG_tup, DL.allG, DL.dSlice, DL.dNo, DL.dPart, DL.cutD_str, DL.cutD_lst, DL.cutD_tup, DL.dGNil, DL.dGCons, DL.dTupT, DL.dIter, DL.dRange1, DL.dRange2, DL.atI_0, DL.atI_1, DL.atI_2, DL.atI_3, DL.atI_4, DL.hotAt, DL.putAt, DL.SV.put, DL.dAppend, DL.dExtend, DL.sStore, DL.storeD, DL.sFldD, DL.putFD, DL.dFld, DL.splitG, DL.partitionG, DL.startsG, DL.joinG, DL.dClear, List.getElem?_cons_zero, List.getElem?_cons_succ, List.set_cons_zero, List.set_cons_succ, List.length_cons, List.length_nil, List.map_cons, List.map_nil, List.replicate_succ, List.replicate_zero, List.nil_append, List.cons_append, Nat.reduceAdd, Nat.reduceSub, Bool.bne_false, Bool.bne_true, Bool.not_true, Bool.not_false, decide_eq_true_eq, Bool.false_eq_true, reduceIte, and_true, true_and, if_true, if_false, decide_true, decide_false, hg, hsz]
    rw [e]
    exact ih (pre ++ [p]) _ (by simpa using hp) k
theorem h_law : ∀ ds r, M_law ds r → t_law (endsP r) (startD N_law.length ds) := by
  rintro _ _ ⟨ns, hns, rfl, rfl⟩
  have ok0 : (⟨ns, 0, 0, 1, 0⟩ : Tape).ok := ⟨show (0 : Int) ≤ 1 by decide, show (1 : Int) < 2 ^ 31 by decide, Nat.zero_le _⟩
  have p0 := pick_ok (s := 3) ok0 (by decide)
  simp only [DL.dVar, DL.dC, DL.dBin, DL.dUn, DL.dTest, DL.dIf, DL.dAnd, DL.dOr, DL.dNot, DL.dAndV, DL.dOrV, DL.dNotV, DL.dChain, DL.dNil, DL.dCons, DL.dTup, DL.dLst, DL.dDK, DL.dFz, DL.dCallL, DL.dCallP, DL.dCallN, DL.dCallT, DL.dCallTN, DL.dMake, DL.dProp, DL.dMeth, DL.dFmt, DL.dJs, DL.look, DL.lookL, DL.frz, DL.frzL, DL.startD, DL.startT, DL.sSeq, DL.sIf, DL.sRet, DL.sRetNew, DL.sRetN, DL.sAsg, DL.sNew, DL.sDrop, DL.sNext, DL.sPar, DL.sFor, DL.dSet, DL.endsP, DL.endsN, DL.endsT, DL.endsTN, DL.SV.toD, DL.Cell.toD, DL.isTy_str, DL.ixD_lst, DL.ixD_tup, DL.ixD_str, DL.ixD_dKs, DL.ixD_dKi, DL.inG_dKs, DL.inG_sign, DL.eqG_int, DL.eqG_str, DL.eqG_bl, DL.addD_int, DL.addD_str, DL.addD_lst, DL.addD_tup, DL.intD_int, DL.cmpD_int, DL.cmpD_str, DL.negD, DL.isNG1, DL.isN, DL.isiG, DL.isD, DL.isAnyG, DL.isAny, DL.isInsG, DL.lenG_str, DL.lenG_lst, DL.lenG_tup, DL.lenG_dK, DL.lenG_scr, DL.intG_int, DL.intG_bl, DL.intG_str, DL.strG, DL.absG, DL.two, DL.listG2_dK, DL.listG2_lst, DL.listG2_tup, DL.listG2_scr, DL.tupleG_lst, DL.tupleG_tup, DL.allG, DL.dSlice, DL.dNo, DL.dPart, DL.cutD_str, DL.cutD_lst, DL.cutD_tup, DL.dGNil, DL.dGCons, DL.dTupT, DL.dIter, DL.dRange1, DL.dRange2, DL.atI_0, DL.atI_1, DL.atI_2, DL.atI_3, DL.atI_4, DL.hotAt, DL.putAt, DL.SV.put, DL.dAppend, DL.dExtend, DL.sStore, DL.storeD, DL.sFldD, DL.putFD, DL.dFld, DL.splitG, DL.partitionG, DL.startsG, DL.joinG, DL.dClear, List.getElem?_cons_zero, List.getElem?_cons_succ, List.set_cons_zero, List.set_cons_succ, List.length_cons, List.length_nil, List.map_cons, List.map_nil, List.replicate_succ, List.replicate_zero, List.nil_append, List.cons_append, Nat.reduceAdd, Nat.reduceSub, Bool.bne_false, Bool.bne_true, Bool.not_true, Bool.not_false, decide_eq_true_eq, Bool.false_eq_true, reduceIte, and_true, true_and, if_true, if_false, decide_true, decide_false, t_law]
  refine ⟨_, ⟨ns, rfl, rfl⟩, ?_⟩
  try simp only [DL.dVar, DL.dC, DL.dBin, DL.dUn, DL.dTest, DL.dIf, DL.dAnd, DL.dOr, DL.dNot, DL.dAndV, DL.dOrV, DL.dNotV, DL.dChain, DL.dNil, DL.dCons, DL.dTup, DL.dLst, DL.dDK, DL.dFz, DL.dCallL, DL.dCallP, DL.dCallN, DL.dCallT, DL.dCallTN, DL.dMake, DL.dProp, DL.dMeth, DL.dFmt, DL.dJs, DL.look, DL.lookL, DL.frz, DL.frzL, DL.startD, DL.startT, DL.sSeq, DL.sIf, DL.sRet, DL.sRetNew, DL.sRetN, DL.sAsg, DL.sNew, DL.sDrop, DL.sNext, DL.sPar, DL.sFor, DL.dSet, DL.endsP, DL.endsN, DL.endsT, DL.endsTN, DL.SV.toD, DL.Cell.toD, DL.isTy_str, DL.ixD_lst, DL.ixD_tup, DL.ixD_str, DL.ixD_dKs, DL.ixD_dKi, DL.inG_dKs, DL.inG_sign, DL.eqG_int, DL.eqG_str, DL.eqG_bl, DL.addD_int, DL.addD_str, DL.addD_lst, DL.addD_tup, DL.intD_int, DL.cmpD_int, DL.cmpD_str, DL.negD, DL.isNG1, DL.isN, DL.isiG, DL.isD, DL.isAnyG, DL.isAny, DL.isInsG, DL.lenG_str, DL.lenG_lst, DL.lenG_tup, DL.lenG_dK, DL.lenG_scr, DL.intG_int, DL.intG_bl, DL.intG_str, DL.strG, DL.absG, DL.two, DL.listG2_dK, DL.listG2_lst, DL.listG2_tup, DL.listG2_scr, DL.tupleG_lst, DL.tupleG_tup, DL.allG, DL.dSlice, DL.dNo, DL.dPart, DL.cutD_str, DL.cutD_lst, DL.cutD_tup, DL.dGNil, DL.dGCons, DL.dTupT, DL.dIter, DL.dRange1, DL.dRange2, DL.atI_0, DL.atI_1, DL.atI_2, DL.atI_3, DL.atI_4, DL.hotAt, DL.putAt, DL.SV.put, DL.dAppend, DL.dExtend, DL.sStore, DL.storeD, DL.sFldD, DL.putFD, DL.dFld, DL.splitG, DL.partitionG, DL.startsG, DL.joinG, DL.dClear, List.getElem?_cons_zero, List.getElem?_cons_succ, List.set_cons_zero, List.set_cons_succ, List.length_cons, List.length_nil, List.map_cons, List.map_nil, List.replicate_succ, List.replicate_zero, List.nil_append, List.cons_append, Nat.reduceAdd, Nat.reduceSub, Bool.bne_false, Bool.bne_true, Bool.not_true, Bool.not_false, decide_eq_true_eq, Bool.false_eq_true, reduceIte, and_true, true_and, if_true, if_false, decide_true, decide_false]
  refine ⟨_, _, ⟨_, 3, ok0, show (0 : Nat) < 2 ^ 20 by decide, by decide, by decide, rfl, rfl, rfl, rfl⟩, ?_⟩
  have w0 := p0.lo
  have w1 := p0.hi
  have ok1 := p0.ok
  have u1 : (pick ⟨ns, 0, 0, 1, 0⟩ 3).2.turn ≤ 1 := p0.turn
  generalize (pick ⟨ns, 0, 0, 1, 0⟩ 3).1 = p at *
  generalize (pick ⟨ns, 0, 0, 1, 0⟩ 3).2 = T1 at *
  clear p0
  obtain ⟨w, hw⟩ : ∃ w : Nat, 1 + p = (w : Int) := ⟨(1 + p).toNat, by omega⟩
  have hm := widths_at w0 w1
  rw [hw] at hm
  generalize hmm : (if p = 2 then (3 : Int) else 4) = m at hm
  have m1 : 1 ≤ m := by split at hmm <;> omega
  have m4 : m ≤ 4 := by split at hmm <;> omega
  obtain ⟨r1, r2, ok2, u2⟩ := rowsOf_ok ok1 m1 m4
  simp only [DL.dVar, DL.dC, DL.dBin, DL.dUn, DL.dTest, DL.dIf, DL.dAnd, DL.dOr, DL.dNot, DL.dAndV, DL.dOrV, DL.dNotV, DL.dChain, DL.dNil, DL.dCons, DL.dTup, DL.dLst, DL.dDK, DL.dFz, DL.dCallL, DL.dCallP, DL.dCallN, DL.dCallT, DL.dCallTN, DL.dMake, DL.dProp, DL.dMeth, DL.dFmt, DL.dJs, DL.look, DL.lookL, DL.frz, DL.frzL, DL.startD, DL.startT, DL.sSeq, DL.sIf, DL.sRet, DL.sRetNew, DL.sRetN, DL.sAsg, DL.sNew, DL.sDrop, DL.sNext, DL.sPar, DL.sFor, DL.dSet, DL.endsP, DL.endsN, DL.endsT, DL.endsTN, DL.SV.toD, DL.Cell.toD, DL.isTy_str, DL.ixD_lst, DL.ixD_tup, DL.ixD_str, DL.ixD_dKs, DL.ixD_dKi, DL.inG_dKs, DL.inG_sign, DL.eqG_int, DL.eqG_str, DL.eqG_bl, DL.addD_int, DL.addD_str, DL.addD_lst, DL.addD_tup, DL.intD_int, DL.cmpD_int, DL.cmpD_str, DL.negD, DL.isNG1, DL.isN, DL.isiG, DL.isD, DL.isAnyG, DL.isAny, DL.isInsG, DL.lenG_str, DL.lenG_lst, DL.lenG_tup, DL.lenG_dK, DL.lenG_scr, DL.intG_int, DL.intG_bl, DL.intG_str, DL.strG, DL.absG, DL.two, DL.listG2_dK, DL.listG2_lst, DL.listG2_tup, DL.listG2_scr, DL.tupleG_lst, DL.tupleG_tup, DL.allG, DL.dSlice, DL.dNo, DL.dPart, DL.cutD_str, DL.cutD_lst, DL.cutD_tup, DL.dGNil, DL.dGCons, DL.dTupT, DL.dIter, DL.dRange1, DL.dRange2, DL.atI_0, DL.atI_1, DL.atI_2, DL.atI_3, DL.atI_4, DL.hotAt, DL.putAt, DL.SV.put, DL.dAppend, DL.dExtend, DL.sStore, DL.storeD, DL.sFldD, DL.putFD, DL.dFld, DL.splitG, DL.partitionG, DL.startsG, DL.joinG, DL.dClear, List.getElem?_cons_zero, List.getElem?_cons_succ, List.set_cons_zero, List.set_cons_succ, List.length_cons, List.length_nil, List.map_cons, List.map_nil, List.replicate_succ, List.replicate_zero, List.nil_append, List.cons_append, Nat.reduceAdd, Nat.reduceSub, Bool.bne_false, Bool.bne_true, Bool.not_true, Bool.not_false, decide_eq_true_eq, Bool.false_eq_true, reduceIte, and_true, true_and, if_true, if_false, decide_true, decide_false, hw, hm]
  refine ⟨by decide, _, _, ⟨T1, m, ok1, by omega, m1, m4, rfl, rfl, rfl, rfl⟩, ?_⟩
  generalize (rowsOf T1 m).1 = R at *
  generalize (rowsOf T1 m).2 = T2 at *
  have few : w = 3 → (tl R).length ≤ 3 := fun z => by
    have : p = 2 := by omega
    rw [if_pos this] at hmm
    omega
  have s : Sz R w := ⟨r1, by omega, by omega, few⟩
  have ht := tab_mk s ok2
  obtain ⟨ok3, u3, _⟩ := fracs_ok (names R w) T2 ok2
  have hnl := names_len s
  try simp only [DL.dVar, DL.dC, DL.dBin, DL.dUn, DL.dTest, DL.dIf, DL.dAnd, DL.dOr, DL.dNot, DL.dAndV, DL.dOrV, DL.dNotV, DL.dChain, DL.dNil, DL.dCons, DL.dTup, DL.dLst, DL.dDK, DL.dFz, DL.dCallL, DL.dCallP, DL.dCallN, DL.dCallT, DL.dCallTN, DL.dMake, DL.dProp, DL.dMeth, DL.dFmt, DL.dJs, DL.look, DL.lookL, DL.frz, DL.frzL, DL.startD, DL.startT, DL.sSeq, DL.sIf, DL.sRet, DL.sRetNew, DL.sRetN, DL.sAsg, DL.sNew, DL.sDrop, DL.sNext, DL.sPar, DL.sFor, DL.dSet, DL.endsP, DL.endsN, DL.endsT, DL.endsTN, DL.SV.toD, DL.Cell.toD, DL.isTy_str, DL.ixD_lst, DL.ixD_tup, DL.ixD_str, DL.ixD_dKs, DL.ixD_dKi, DL.inG_dKs, DL.inG_sign, DL.eqG_int, DL.eqG_str, DL.eqG_bl, DL.addD_int, DL.addD_str, DL.addD_lst, DL.addD_tup, DL.intD_int, DL.cmpD_int, DL.cmpD_str, DL.negD, DL.isNG1, DL.isN, DL.isiG, DL.isD, DL.isAnyG, DL.isAny, DL.isInsG, DL.lenG_str, DL.lenG_lst, DL.lenG_tup, DL.lenG_dK, DL.lenG_scr, DL.intG_int, DL.intG_bl, DL.intG_str, DL.strG, DL.absG, DL.two, DL.listG2_dK, DL.listG2_lst, DL.listG2_tup, DL.listG2_scr, DL.tupleG_lst, DL.tupleG_tup, DL.allG, DL.dSlice, DL.dNo, DL.dPart, DL.cutD_str, DL.cutD_lst, DL.cutD_tup, DL.dGNil, DL.dGCons, DL.dTupT, DL.dIter, DL.dRange1, DL.dRange2, DL.atI_0, DL.atI_1, DL.atI_2, DL.atI_3, DL.atI_4, DL.hotAt, DL.putAt, DL.SV.put, DL.dAppend, DL.dExtend, DL.sStore, DL.storeD, DL.sFldD, DL.putFD, DL.dFld, DL.splitG, DL.partitionG, DL.startsG, DL.joinG, DL.dClear, List.getElem?_cons_zero, List.getElem?_cons_succ, List.set_cons_zero, List.set_cons_succ, List.length_cons, List.length_nil, List.map_cons, List.map_nil, List.replicate_succ, List.replicate_zero, List.nil_append, List.cons_append, Nat.reduceAdd, Nat.reduceSub, Bool.bne_false, Bool.bne_true, Bool.not_true, Bool.not_false, decide_eq_true_eq, Bool.false_eq_true, reduceIte, and_true, true_and, if_true, if_false, decide_true, decide_false]
  refine ⟨_, _, ⟨T2, R, w, ok2, by omega, s, rfl, rfl, rfl, rfl⟩, ?_⟩
  generalize (fracsOf (names R w) T2).1 = t at *
  generalize (fracsOf (names R w) T2).2 = T3 at *
  have ek : (tabD t).map (fun p => kD p.1) = (names R w).map D.str := by
    rw [← ht.keys, List.map_map]; unfold tabD; rw [List.map_map]; rfl
  have en : (names R w).map D.str = t.map fun p => .str p.1 := by rw [← ht.keys, List.map_map]; rfl
  simp only [DL.dVar, DL.dC, DL.dBin, DL.dUn, DL.dTest, DL.dIf, DL.dAnd, DL.dOr, DL.dNot, DL.dAndV, DL.dOrV, DL.dNotV, DL.dChain, DL.dNil, DL.dCons, DL.dTup, DL.dLst, DL.dDK, DL.dFz, DL.dCallL, DL.dCallP, DL.dCallN, DL.dCallT, DL.dCallTN, DL.dMake, DL.dProp, DL.dMeth, DL.dFmt, DL.dJs, DL.look, DL.lookL, DL.frz, DL.frzL, DL.startD, DL.startT, DL.sSeq, DL.sIf, DL.sRet, DL.sRetNew, DL.sRetN, DL.sAsg, DL.sNew, DL.sDrop, DL.sNext, DL.sPar, DL.sFor, DL.dSet, DL.endsP, DL.endsN, DL.endsT, DL.endsTN, DL.SV.toD, DL.Cell.toD, DL.isTy_str, DL.ixD_lst, DL.ixD_tup, DL.ixD_str, DL.ixD_dKs, DL.ixD_dKi, DL.inG_dKs, DL.inG_sign, DL.eqG_int, DL.eqG_str, DL.eqG_bl, DL.addD_int, DL.addD_str, DL.addD_lst, DL.addD_tup, DL.intD_int, DL.cmpD_int, DL.cmpD_str, DL.negD, DL.isNG1, DL.isN, DL.isiG, DL.isD, DL.isAnyG, DL.isAny, DL.isInsG, DL.lenG_str, DL.lenG_lst, DL.lenG_tup, DL.lenG_dK, DL.lenG_scr, DL.intG_int, DL.intG_bl, DL.intG_str, DL.strG, DL.absG, DL.two, DL.listG2_dK, DL.listG2_lst, DL.listG2_tup, DL.listG2_scr, DL.tupleG_lst, DL.tupleG_tup, DL.allG, DL.dSlice, DL.dNo, DL.dPart, DL.cutD_str, DL.cutD_lst, DL.cutD_tup, DL.dGNil, DL.dGCons, DL.dTupT, DL.dIter, DL.dRange1, DL.dRange2, DL.atI_0, DL.atI_1, DL.atI_2, DL.atI_3, DL.atI_4, DL.hotAt, DL.putAt, DL.SV.put, DL.dAppend, DL.dExtend, DL.sStore, DL.storeD, DL.sFldD, DL.putFD, DL.dFld, DL.splitG, DL.partitionG, DL.startsG, DL.joinG, DL.dClear, List.getElem?_cons_zero, List.getElem?_cons_succ, List.set_cons_zero, List.set_cons_succ, List.length_cons, List.length_nil, List.map_cons, List.map_nil, List.replicate_succ, List.replicate_zero, List.nil_append, List.cons_append, Nat.reduceAdd, Nat.reduceSub, Bool.bne_false, Bool.bne_true, Bool.not_true, Bool.not_false, decide_eq_true_eq, Bool.false_eq_true, reduceIte, and_true, true_and, if_true, if_false, decide_true, decide_false, ek, sortedG2, sortedG, strsD_map, List.length_map, sort_names]
  refine ⟨hnl, ?_⟩
  rw [en]
  refine copy_loop ht t [] none rfl fun v => ?_
  have htl : (tabD t).length = t.length := by unfold tabD; rw [List.length_map]
  have hpos : 0 < t.length := by
    rw [tab_len ht]; exact List.length_pos_iff.mpr (names_ne s)
  have ht64 := tab_lt ht
  have p3 := pick_ok (s := (t.length : Int)) ok3 (by omega)
  simp only [DL.dVar, DL.dC, DL.dBin, DL.dUn, DL.dTest, DL.dIf, DL.dAnd, DL.dOr, DL.dNot, DL.dAndV, DL.dOrV, DL.dNotV, DL.dChain, DL.dNil, DL.dCons, DL.dTup, DL.dLst, DL.dDK, DL.dFz, DL.dCallL, DL.dCallP, DL.dCallN, DL.dCallT, DL.dCallTN, DL.dMake, DL.dProp, DL.dMeth, DL.dFmt, DL.dJs, DL.look, DL.lookL, DL.frz, DL.frzL, DL.startD, DL.startT, DL.sSeq, DL.sIf, DL.sRet, DL.sRetNew, DL.sRetN, DL.sAsg, DL.sNew, DL.sDrop, DL.sNext, DL.sPar, DL.sFor, DL.dSet, DL.endsP, DL.endsN, DL.endsT, DL.endsTN, DL.SV.toD, DL.Cell.toD, DL.isTy_str, DL.ixD_lst, DL.ixD_tup, DL.ixD_str, DL.ixD_dKs, DL.ixD_dKi, DL.inG_dKs, DL.inG_sign, DL.eqG_int, DL.eqG_str, DL.eqG_bl, DL.addD_int, DL.addD_str, DL.addD_lst, DL.addD_tup, DL.intD_int, DL.cmpD_int, DL.cmpD_str, DL.negD, DL.isNG1, DL.isN, DL.isiG, DL.isD, DL.isAnyG, DL.isAny, DL.isInsG, DL.lenG_str, DL.lenG_lst, DL.lenG_tup, DL.lenG_dK, DL.lenG_scr, DL.intG_int, DL.intG_bl, DL.intG_str, DL.strG, DL.absG, DL.two, DL.listG2_dK, DL.listG2_lst, DL.listG2_tup, DL.listG2_scr, DL.tupleG_lst, DL.tupleG_tup, DL.allG, DL.dSlice, DL.dNo, DL.dPart, DL.cutD_str, DL.cutD_lst, DL.cutD_tup, DL.dGNil, DL.dGCons, DL.dTupT, DL.dIter, DL.dRange1, DL.dRange2, DL.atI_0, DL.atI_1, DL.atI_2, DL.atI_3, DL.atI_4, DL.hotAt, DL.putAt, DL.SV.put, DL.dAppend, DL.dExtend, DL.sStore, DL.storeD, DL.sFldD, DL.putFD, DL.dFld, DL.splitG, DL.partitionG, DL.startsG, DL.joinG, DL.dClear, List.getElem?_cons_zero, List.getElem?_cons_succ, List.set_cons_zero, List.set_cons_succ, List.length_cons, List.length_nil, List.map_cons, List.map_nil, List.replicate_succ, List.replicate_zero, List.nil_append, List.cons_append, Nat.reduceAdd, Nat.reduceSub, Bool.bne_false, Bool.bne_true, Bool.not_true, Bool.not_false, decide_eq_true_eq, Bool.false_eq_true, reduceIte, and_true, true_and, if_true, if_false, decide_true, decide_false, ek, sortedG2, sortedG, strsD_map, List.length_map, sort_names, htl]
  refine ⟨hnl, _, _, ⟨T3, t.length, ok3, by omega, by omega, by omega, rfl, rfl, rfl, rfl⟩, ?_⟩
  have k0 := p3.lo
  have k1 := p3.hi
  have ok4 := p3.ok
  have u4 := p3.turn
  generalize (pick T3 (t.length : Int)).1 = k at *
  generalize (pick T3 (t.length : Int)).2 = T4 at *
  clear p3
  obtain ⟨x, hx, hat⟩ : ∃ x, x ∈ names R w ∧ atI ((names R w).map D.str) k = some (.str x) := by
    have hlt : k.toNat < (names R w).length := by rw [← tab_len ht]; omega
    exact ⟨(names R w)[k.toNat], List.getElem_mem hlt, atI_of k.toNat (by omega) (by rw [List.getElem?_map, List.getElem?_eq_getElem hlt]; rfl)⟩
  simp only [DL.dVar, DL.dC, DL.dBin, DL.dUn, DL.dTest, DL.dIf, DL.dAnd, DL.dOr, DL.dNot, DL.dAndV, DL.dOrV, DL.dNotV, DL.dChain, DL.dNil, DL.dCons, DL.dTup, DL.dLst, DL.dDK, DL.dFz, DL.dCallL, DL.dCallP, DL.dCallN, DL.dCallT, DL.dCallTN, DL.dMake, DL.dProp, DL.dMeth, DL.dFmt, DL.dJs, DL.look, DL.lookL, DL.frz, DL.frzL, DL.startD, DL.startT, DL.sSeq, DL.sIf, DL.sRet, DL.sRetNew, DL.sRetN, DL.sAsg, DL.sNew, DL.sDrop, DL.sNext, DL.sPar, DL.sFor, DL.dSet, DL.endsP, DL.endsN, DL.endsT, DL.endsTN, DL.SV.toD, DL.Cell.toD, DL.isTy_str, DL.ixD_lst, DL.ixD_tup, DL.ixD_str, DL.ixD_dKs, DL.ixD_dKi, DL.inG_dKs, DL.inG_sign, DL.eqG_int, DL.eqG_str, DL.eqG_bl, DL.addD_int, DL.addD_str, DL.addD_lst, DL.addD_tup, DL.intD_int, DL.cmpD_int, DL.cmpD_str, DL.negD, DL.isNG1, DL.isN, DL.isiG, DL.isD, DL.isAnyG, DL.isAny, DL.isInsG, DL.lenG_str, DL.lenG_lst, DL.lenG_tup, DL.lenG_dK, DL.lenG_scr, DL.intG_int, DL.intG_bl, DL.intG_str, DL.strG, DL.absG, DL.two, DL.listG2_dK, DL.listG2_lst, DL.listG2_tup, DL.listG2_scr, DL.tupleG_lst, DL.tupleG_tup, DL.allG, DL.dSlice, DL.dNo, DL.dPart, DL.cutD_str, DL.cutD_lst, DL.cutD_tup, DL.dGNil, DL.dGCons, DL.dTupT, DL.dIter, DL.dRange1, DL.dRange2, DL.atI_0, DL.atI_1, DL.atI_2, DL.atI_3, DL.atI_4, DL.hotAt, DL.putAt, DL.SV.put, DL.dAppend, DL.dExtend, DL.sStore, DL.storeD, DL.sFldD, DL.putFD, DL.dFld, DL.splitG, DL.partitionG, DL.startsG, DL.joinG, DL.dClear, List.getElem?_cons_zero, List.getElem?_cons_succ, List.set_cons_zero, List.set_cons_succ, List.length_cons, List.length_nil, List.map_cons, List.map_nil, List.replicate_succ, List.replicate_zero, List.nil_append, List.cons_append, Nat.reduceAdd, Nat.reduceSub, Bool.bne_false, Bool.bne_true, Bool.not_true, Bool.not_false, decide_eq_true_eq, Bool.false_eq_true, reduceIte, and_true, true_and, if_true, if_false, decide_true, decide_false, hat]
  refine ⟨_, _, ⟨T4, ok4, by omega, rfl, rfl, rfl, rfl⟩, ?_⟩
  obtain ⟨ok5, u5, hf⟩ := fracOf_ok ok4
  generalize (fracOf T4).1 = f at *
  generalize (fracOf T4).2 = T5 at *
  have hsz : t.length < sizeLine := Nat.lt_of_lt_of_le (show t.length < 64 by omega) (by decide)
  have hput := upd_put t x f (by rw [ht.keys]; exact hx)
  have ht' := upd_ok ht x hf
  unfold frD at hput
  simp only [DL.dVar, DL.dC, DL.dBin, DL.dUn, DL.dTest, DL.dIf, DL.dAnd, DL.dOr, DL.dNot, DL.dAndV, DL.dOrV, DL.dNotV, DL.dChain, DL.dNil, DL.dCons, DL.dTup, DL.dLst, DL.dDK, DL.dFz, DL.dCallL, DL.dCallP, DL.dCallN, DL.dCallT, DL.dCallTN, DL.dMake, DL.dProp, DL.dMeth, DL.dFmt, DL.dJs, DL.look, DL.lookL, DL.frz, DL.frzL, DL.startD, DL.startT, DL.sSeq, DL.sIf, DL.sRet, DL.sRetNew, DL.sRetN, DL.sAsg, DL.sNew, DL.sDrop, DL.sNext, DL.sPar, DL.sFor, DL.dSet, DL.endsP, DL.endsN, DL.endsT, DL.endsTN, DL.SV.toD, DL.Cell.toD, DL.isTy_str, DL.ixD_lst, DL.ixD_tup, DL.ixD_str, DL.ixD_dKs, DL.ixD_dKi, DL.inG_dKs, DL.inG_sign, DL.eqG_int, DL.eqG_str, DL.eqG_bl, DL.addD_int, DL.addD_str, DL.addD_lst, DL.addD_tup, DL.intD_int, DL.cmpD_int, DL.cmpD_str, DL.negD, DL.isNG1, DL.isN, DL.isiG, DL.isD, DL.isAnyG, DL.isAny, DL.isInsG, DL.lenG_str, DL.lenG_lst, DL.lenG_tup, DL.lenG_dK, DL.lenG_scr, DL.intG_int, DL.intG_bl, DL.intG_str, DL.strG, DL.absG, DL.two, DL.listG2_dK, DL.listG2_lst, DL.listG2_tup, DL.listG2_scr, DL.tupleG_lst, DL.tupleG_tup, DL.allG, DL.dSlice, DL.dNo, DL.dPart, DL.cutD_str, DL.cutD_lst, DL.cutD_tup, DL.dGNil, DL.dGCons, DL.dTupT, DL.dIter, DL.dRange1, DL.dRange2, DL.atI_0, DL.atI_1, DL.atI_2, DL.atI_3, DL.atI_4, DL.hotAt, DL.putAt, DL.SV.put, DL.dAppend, DL.dExtend, DL.sStore, DL.storeD, DL.sFldD, DL.putFD, DL.dFld, DL.splitG, DL.partitionG, DL.startsG, DL.joinG, DL.dClear, List.getElem?_cons_zero, List.getElem?_cons_succ, List.set_cons_zero, List.set_cons_succ, List.length_cons, List.length_nil, List.map_cons, List.map_nil, List.replicate_succ, List.replicate_zero, List.nil_append, List.cons_append, Nat.reduceAdd, Nat.reduceSub, Bool.bne_false, Bool.bne_true, Bool.not_true, Bool.not_false, decide_eq_true_eq, Bool.false_eq_true, reduceIte, and_true, true_and, if_true, if_false, decide_true, decide_false, frD, htl, hsz, hput]
  generalize updT t x f = t' at *
  refine ⟨_, ⟨R, w, t, ht, rfl, rfl, rfl, rfl⟩, ?_⟩
  try simp only [DL.dVar, DL.dC, DL.dBin, DL.dUn, DL.dTest, DL.dIf, DL.dAnd, DL.dOr, DL.dNot, DL.dAndV, DL.dOrV, DL.dNotV, DL.dChain, DL.dNil, DL.dCons, DL.dTup, DL.dLst, DL.dDK, DL.dFz, DL.dCallL, DL.dCallP, DL.dCallN, DL.dCallT, DL.dCallTN, DL.dMake, DL.dProp, DL.dMeth, DL.dFmt, DL.dJs, DL.look, DL.lookL, DL.frz, DL.frzL, DL.startD, DL.startT, DL.sSeq, DL.sIf, DL.sRet, DL.sRetNew, DL.sRetN, DL.sAsg, DL.sNew, DL.sDrop, DL.sNext, DL.sPar, DL.sFor, DL.dSet, DL.endsP, DL.endsN, DL.endsT, DL.endsTN, DL.SV.toD, DL.Cell.toD, DL.isTy_str, DL.ixD_lst, DL.ixD_tup, DL.ixD_str, DL.ixD_dKs, DL.ixD_dKi, DL.inG_dKs, DL.inG_sign, DL.eqG_int, DL.eqG_str, DL.eqG_bl, DL.addD_int, DL.addD_str, DL.addD_lst, DL.addD_tup, DL.intD_int, DL.cmpD_int, DL.cmpD_str, DL.negD, DL.isNG1, DL.isN, DL.isiG, DL.isD, DL.isAnyG, DL.isAny, DL.isInsG, DL.lenG_str, DL.lenG_lst, DL.lenG_tup, DL.lenG_dK, DL.lenG_scr, DL.intG_int, DL.intG_bl, DL.intG_str, DL.strG, DL.absG, DL.two, DL.listG2_dK, DL.listG2_lst, DL.listG2_tup, DL.listG2_scr, DL.tupleG_lst, DL.tupleG_tup, DL.allG, DL.dSlice, DL.dNo, DL.dPart, DL.cutD_str, DL.cutD_lst, DL.cutD_tup, DL.dGNil, DL.dGCons, DL.dTupT, DL.dIter, DL.dRange1, DL.dRange2, DL.atI_0, DL.atI_1, DL.atI_2, DL.atI_3, DL.atI_4, DL.hotAt, DL.putAt, DL.SV.put, DL.dAppend, DL.dExtend, DL.sStore, DL.storeD, DL.sFldD, DL.putFD, DL.dFld, DL.splitG, DL.partitionG, DL.startsG, DL.joinG, DL.dClear, List.getElem?_cons_zero, List.getElem?_cons_succ, List.set_cons_zero, List.set_cons_succ, List.length_cons, List.length_nil, List.map_cons, List.map_nil, List.replicate_succ, List.replicate_zero, List.nil_append, List.cons_append, Nat.reduceAdd, Nat.reduceSub, Bool.bne_false, Bool.bne_true, Bool.not_true, Bool.not_false, decide_eq_true_eq, Bool.false_eq_true, reduceIte, and_true, true_and, if_true, if_false, decide_true, decide_false]
  refine ⟨_, ⟨R, w, t', ht', rfl, rfl, rfl, rfl⟩, ?_⟩
  try simp only [DL.dVar, DL.dC, DL.dBin, DL.dUn, DL.dTest, DL.dIf, DL.dAnd, DL.dOr, DL.dNot, DL.dAndV, DL.dOrV, DL.dNotV, DL.dChain, DL.dNil, DL.dCons, DL.dTup, DL.dLst, DL.dDK, DL.dFz, DL.dCallL, DL.dCallP, DL.dCallN, DL.dCallT, DL.dCallTN, DL.dMake, DL.dProp, DL.dMeth, DL.dFmt, DL.dJs, DL.look, DL.lookL, DL.frz, DL.frzL, DL.startD, DL.startT, DL.sSeq, DL.sIf, DL.sRet, DL.sRetNew, DL.sRetN, DL.sAsg, DL.sNew, DL.sDrop, DL.sNext, DL.sPar, DL.sFor, DL.dSet, DL.endsP, DL.endsN, DL.endsT, DL.endsTN, DL.SV.toD, DL.Cell.toD, DL.isTy_str, DL.ixD_lst, DL.ixD_tup, DL.ixD_str, DL.ixD_dKs, DL.ixD_dKi, DL.inG_dKs, DL.inG_sign, DL.eqG_int, DL.eqG_str, DL.eqG_bl, DL.addD_int, DL.addD_str, DL.addD_lst, DL.addD_tup, DL.intD_int, DL.cmpD_int, DL.cmpD_str, DL.negD, DL.isNG1, DL.isN, DL.isiG, DL.isD, DL.isAnyG, DL.isAny, DL.isInsG, DL.lenG_str, DL.lenG_lst, DL.lenG_tup, DL.lenG_dK, DL.lenG_scr, DL.intG_int, DL.intG_bl, DL.intG_str, DL.strG, DL.absG, DL.two, DL.listG2_dK, DL.listG2_lst, DL.listG2_tup, DL.listG2_scr, DL.tupleG_lst, DL.tupleG_tup, DL.allG, DL.dSlice, DL.dNo, DL.dPart, DL.cutD_str, DL.cutD_lst, DL.cutD_tup, DL.dGNil, DL.dGCons, DL.dTupT, DL.dIter, DL.dRange1, DL.dRange2, DL.atI_0, DL.atI_1, DL.atI_2, DL.atI_3, DL.atI_4, DL.hotAt, DL.putAt, DL.SV.put, DL.dAppend, DL.dExtend, DL.sStore, DL.storeD, DL.sFldD, DL.putFD, DL.dFld, DL.splitG, DL.partitionG, DL.startsG, DL.joinG, DL.dClear, List.getElem?_cons_zero, List.getElem?_cons_succ, List.set_cons_zero, List.set_cons_succ, List.length_cons, List.length_nil, List.map_cons, List.map_nil, List.replicate_succ, List.replicate_zero, List.nil_append, List.cons_append, Nat.reduceAdd, Nat.reduceSub, Bool.bne_false, Bool.bne_true, Bool.not_true, Bool.not_false, decide_eq_true_eq, Bool.false_eq_true, reduceIte, and_true, true_and, if_true, if_false, decide_true, decide_false]
  refine ⟨_, ⟨R, w, t, ht, rfl, rfl⟩, ?_⟩
  try simp only [DL.dVar, DL.dC, DL.dBin, DL.dUn, DL.dTest, DL.dIf, DL.dAnd, DL.dOr, DL.dNot, DL.dAndV, DL.dOrV, DL.dNotV, DL.dChain, DL.dNil, DL.dCons, DL.dTup, DL.dLst, DL.dDK, DL.dFz, DL.dCallL, DL.dCallP, DL.dCallN, DL.dCallT, DL.dCallTN, DL.dMake, DL.dProp, DL.dMeth, DL.dFmt, DL.dJs, DL.look, DL.lookL, DL.frz, DL.frzL, DL.startD, DL.startT, DL.sSeq, DL.sIf, DL.sRet, DL.sRetNew, DL.sRetN, DL.sAsg, DL.sNew, DL.sDrop, DL.sNext, DL.sPar, DL.sFor, DL.dSet, DL.endsP, DL.endsN, DL.endsT, DL.endsTN, DL.SV.toD, DL.Cell.toD, DL.isTy_str, DL.ixD_lst, DL.ixD_tup, DL.ixD_str, DL.ixD_dKs, DL.ixD_dKi, DL.inG_dKs, DL.inG_sign, DL.eqG_int, DL.eqG_str, DL.eqG_bl, DL.addD_int, DL.addD_str, DL.addD_lst, DL.addD_tup, DL.intD_int, DL.cmpD_int, DL.cmpD_str, DL.negD, DL.isNG1, DL.isN, DL.isiG, DL.isD, DL.isAnyG, DL.isAny, DL.isInsG, DL.lenG_str, DL.lenG_lst, DL.lenG_tup, DL.lenG_dK, DL.lenG_scr, DL.intG_int, DL.intG_bl, DL.intG_str, DL.strG, DL.absG, DL.two, DL.listG2_dK, DL.listG2_lst, DL.listG2_tup, DL.listG2_scr, DL.tupleG_lst, DL.tupleG_tup, DL.allG, DL.dSlice, DL.dNo, DL.dPart, DL.cutD_str, DL.cutD_lst, DL.cutD_tup, DL.dGNil, DL.dGCons, DL.dTupT, DL.dIter, DL.dRange1, DL.dRange2, DL.atI_0, DL.atI_1, DL.atI_2, DL.atI_3, DL.atI_4, DL.hotAt, DL.putAt, DL.SV.put, DL.dAppend, DL.dExtend, DL.sStore, DL.storeD, DL.sFldD, DL.putFD, DL.dFld, DL.splitG, DL.partitionG, DL.startsG, DL.joinG, DL.dClear, List.getElem?_cons_zero, List.getElem?_cons_succ, List.set_cons_zero, List.set_cons_succ, List.length_cons, List.length_nil, List.map_cons, List.map_nil, List.replicate_succ, List.replicate_zero, List.nil_append, List.cons_append, Nat.reduceAdd, Nat.reduceSub, Bool.bne_false, Bool.bne_true, Bool.not_true, Bool.not_false, decide_eq_true_eq, Bool.false_eq_true, reduceIte, and_true, true_and, if_true, if_false, decide_true, decide_false]
  refine ⟨_, ⟨R, w, t', ht', rfl, rfl⟩, ?_⟩
  try simp only [DL.dVar, DL.dC, DL.dBin, DL.dUn, DL.dTest, DL.dIf, DL.dAnd, DL.dOr, DL.dNot, DL.dAndV, DL.dOrV, DL.dNotV, DL.dChain, DL.dNil, DL.dCons, DL.dTup, DL.dLst, DL.dDK, DL.dFz, DL.dCallL, DL.dCallP, DL.dCallN, DL.dCallT, DL.dCallTN, DL.dMake, DL.dProp, DL.dMeth, DL.dFmt, DL.dJs, DL.look, DL.lookL, DL.frz, DL.frzL, DL.startD, DL.startT, DL.sSeq, DL.sIf, DL.sRet, DL.sRetNew, DL.sRetN, DL.sAsg, DL.sNew, DL.sDrop, DL.sNext, DL.sPar, DL.sFor, DL.dSet, DL.endsP, DL.endsN, DL.endsT, DL.endsTN, DL.SV.toD, DL.Cell.toD, DL.isTy_str, DL.ixD_lst, DL.ixD_tup, DL.ixD_str, DL.ixD_dKs, DL.ixD_dKi, DL.inG_dKs, DL.inG_sign, DL.eqG_int, DL.eqG_str, DL.eqG_bl, DL.addD_int, DL.addD_str, DL.addD_lst, DL.addD_tup, DL.intD_int, DL.cmpD_int, DL.cmpD_str, DL.negD, DL.isNG1, DL.isN, DL.isiG, DL.isD, DL.isAnyG, DL.isAny, DL.isInsG, DL.lenG_str, DL.lenG_lst, DL.lenG_tup, DL.lenG_dK, DL.lenG_scr, DL.intG_int, DL.intG_bl, DL.intG_str, DL.strG, DL.absG, DL.two, DL.listG2_dK, DL.listG2_lst, DL.listG2_tup, DL.listG2_scr, DL.tupleG_lst, DL.tupleG_tup, DL.allG, DL.dSlice, DL.dNo, DL.dPart, DL.cutD_str, DL.cutD_lst, DL.cutD_tup, DL.dGNil, DL.dGCons, DL.dTupT, DL.dIter, DL.dRange1, DL.dRange2, DL.atI_0, DL.atI_1, DL.atI_2, DL.atI_3, DL.atI_4, DL.hotAt, DL.putAt, DL.SV.put, DL.dAppend, DL.dExtend, DL.sStore, DL.storeD, DL.sFldD, DL.putFD, DL.dFld, DL.splitG, DL.partitionG, DL.startsG, DL.joinG, DL.dClear, List.getElem?_cons_zero, List.getElem?_cons_succ, List.set_cons_zero, List.set_cons_succ, List.length_cons, List.length_nil, List.map_cons, List.map_nil, List.replicate_succ, List.replicate_zero, List.nil_append, List.cons_append, Nat.reduceAdd, Nat.reduceSub, Bool.bne_false, Bool.bne_true, Bool.not_true, Bool.not_false, decide_eq_true_eq, Bool.false_eq_true, reduceIte, and_true, true_and, if_true, if_false, decide_true, decide_false]
  refine ⟨_, ⟨R, w, t, ht, rfl, rfl⟩, ?_⟩
  refine ⟨_, ⟨R, w, t', ht', rfl, rfl⟩, ?_⟩
  have htt : decide (textS R w t = textS R w t') = decide (t = t') := decide_eq_decide.mpr ⟨fun e => text_inj ht ht' e, fun e => by rw [e]⟩
  simp only [DL.dVar, DL.dC, DL.dBin, DL.dUn, DL.dTest, DL.dIf, DL.dAnd, DL.dOr, DL.dNot, DL.dAndV, DL.dOrV, DL.dNotV, DL.dChain, DL.dNil, DL.dCons, DL.dTup, DL.dLst, DL.dDK, DL.dFz, DL.dCallL, DL.dCallP, DL.dCallN, DL.dCallT, DL.dCallTN, DL.dMake, DL.dProp, DL.dMeth, DL.dFmt, DL.dJs, DL.look, DL.lookL, DL.frz, DL.frzL, DL.startD, DL.startT, DL.sSeq, DL.sIf, DL.sRet, DL.sRetNew, DL.sRetN, DL.sAsg, DL.sNew, DL.sDrop, DL.sNext, DL.sPar, DL.sFor, DL.dSet, DL.endsP, DL.endsN, DL.endsT, DL.endsTN, DL.SV.toD, DL.Cell.toD, DL.isTy_str, DL.ixD_lst, DL.ixD_tup, DL.ixD_str, DL.ixD_dKs, DL.ixD_dKi, DL.inG_dKs, DL.inG_sign, DL.eqG_int, DL.eqG_str, DL.eqG_bl, DL.addD_int, DL.addD_str, DL.addD_lst, DL.addD_tup, DL.intD_int, DL.cmpD_int, DL.cmpD_str, DL.negD, DL.isNG1, DL.isN, DL.isiG, DL.isD, DL.isAnyG, DL.isAny, DL.isInsG, DL.lenG_str, DL.lenG_lst, DL.lenG_tup, DL.lenG_dK, DL.lenG_scr, DL.intG_int, DL.intG_bl, DL.intG_str, DL.strG, DL.absG, DL.two, DL.listG2_dK, DL.listG2_lst, DL.listG2_tup, DL.listG2_scr, DL.tupleG_lst, DL.tupleG_tup, DL.allG, DL.dSlice, DL.dNo, DL.dPart, DL.cutD_str, DL.cutD_lst, DL.cutD_tup, DL.dGNil, DL.dGCons, DL.dTupT, DL.dIter, DL.dRange1, DL.dRange2, DL.atI_0, DL.atI_1, DL.atI_2, DL.atI_3, DL.atI_4, DL.hotAt, DL.putAt, DL.SV.put, DL.dAppend, DL.dExtend, DL.sStore, DL.storeD, DL.sFldD, DL.putFD, DL.dFld, DL.splitG, DL.partitionG, DL.startsG, DL.joinG, DL.dClear, List.getElem?_cons_zero, List.getElem?_cons_succ, List.set_cons_zero, List.set_cons_succ, List.length_cons, List.length_nil, List.map_cons, List.map_nil, List.replicate_succ, List.replicate_zero, List.nil_append, List.cons_append, Nat.reduceAdd, Nat.reduceSub, Bool.bne_false, Bool.bne_true, Bool.not_true, Bool.not_false, decide_eq_true_eq, Bool.false_eq_true, reduceIte, and_true, true_and, if_true, if_false, decide_true, decide_false, eqAllG, eqKG, eqDK_tab ht ht', htt, dEqI]
  refine ⟨_, ⟨R, w, t, t', ht, ht', rfl, rfl⟩, ?_⟩
  rw [decide_eq_true (rfl : decide (t = t') = decide (t = t'))]
  try simp only [DL.dVar, DL.dC, DL.dBin, DL.dUn, DL.dTest, DL.dIf, DL.dAnd, DL.dOr, DL.dNot, DL.dAndV, DL.dOrV, DL.dNotV, DL.dChain, DL.dNil, DL.dCons, DL.dTup, DL.dLst, DL.dDK, DL.dFz, DL.dCallL, DL.dCallP, DL.dCallN, DL.dCallT, DL.dCallTN, DL.dMake, DL.dProp, DL.dMeth, DL.dFmt, DL.dJs, DL.look, DL.lookL, DL.frz, DL.frzL, DL.startD, DL.startT, DL.sSeq, DL.sIf, DL.sRet, DL.sRetNew, DL.sRetN, DL.sAsg, DL.sNew, DL.sDrop, DL.sNext, DL.sPar, DL.sFor, DL.dSet, DL.endsP, DL.endsN, DL.endsT, DL.endsTN, DL.SV.toD, DL.Cell.toD, DL.isTy_str, DL.ixD_lst, DL.ixD_tup, DL.ixD_str, DL.ixD_dKs, DL.ixD_dKi, DL.inG_dKs, DL.inG_sign, DL.eqG_int, DL.eqG_str, DL.eqG_bl, DL.addD_int, DL.addD_str, DL.addD_lst, DL.addD_tup, DL.intD_int, DL.cmpD_int, DL.cmpD_str, DL.negD, DL.isNG1, DL.isN, DL.isiG, DL.isD, DL.isAnyG, DL.isAny, DL.isInsG, DL.lenG_str, DL.lenG_lst, DL.lenG_tup, DL.lenG_dK, DL.lenG_scr, DL.intG_int, DL.intG_bl, DL.intG_str, DL.strG, DL.absG, DL.two, DL.listG2_dK, DL.listG2_lst, DL.listG2_tup, DL.listG2_scr, DL.tupleG_lst, DL.tupleG_tup, DL.allG, DL.dSlice, DL.dNo, DL.dPart, DL.cutD_str, DL.cutD_lst, DL.cutD_tup, DL.dGNil, DL.dGCons, DL.dTupT, DL.dIter, DL.dRange1, DL.dRange2, DL.atI_0, DL.atI_1, DL.atI_2, DL.atI_3, DL.atI_4, DL.hotAt, DL.putAt, DL.SV.put, DL.dAppend, DL.dExtend, DL.sStore, DL.storeD, DL.sFldD, DL.putFD, DL.dFld, DL.splitG, DL.partitionG, DL.startsG, DL.joinG, DL.dClear, List.getElem?_cons_zero, List.getElem?_cons_succ, List.set_cons_zero, List.set_cons_succ, List.length_cons, List.length_nil, List.map_cons, List.map_nil, List.replicate_succ, List.replicate_zero, List.nil_append, List.cons_append, Nat.reduceAdd, Nat.reduceSub, Bool.bne_false, Bool.bne_true, Bool.not_true, Bool.not_false, decide_eq_true_eq, Bool.false_eq_true, reduceIte, and_true, true_and, if_true, if_false, decide_true, decide_false]
  refine ⟨_, ⟨R, w, t, ht, rfl, rfl⟩, ?_⟩
  refine ⟨_, ⟨R, w, t, ht, rfl, rfl⟩, ?_⟩
  simp only [DL.dVar, DL.dC, DL.dBin, DL.dUn, DL.dTest, DL.dIf, DL.dAnd, DL.dOr, DL.dNot, DL.dAndV, DL.dOrV, DL.dNotV, DL.dChain, DL.dNil, DL.dCons, DL.dTup, DL.dLst, DL.dDK, DL.dFz, DL.dCallL, DL.dCallP, DL.dCallN, DL.dCallT, DL.dCallTN, DL.dMake, DL.dProp, DL.dMeth, DL.dFmt, DL.dJs, DL.look, DL.lookL, DL.frz, DL.frzL, DL.startD, DL.startT, DL.sSeq, DL.sIf, DL.sRet, DL.sRetNew, DL.sRetN, DL.sAsg, DL.sNew, DL.sDrop, DL.sNext, DL.sPar, DL.sFor, DL.dSet, DL.endsP, DL.endsN, DL.endsT, DL.endsTN, DL.SV.toD, DL.Cell.toD, DL.isTy_str, DL.ixD_lst, DL.ixD_tup, DL.ixD_str, DL.ixD_dKs, DL.ixD_dKi, DL.inG_dKs, DL.inG_sign, DL.eqG_int, DL.eqG_str, DL.eqG_bl, DL.addD_int, DL.addD_str, DL.addD_lst, DL.addD_tup, DL.intD_int, DL.cmpD_int, DL.cmpD_str, DL.negD, DL.isNG1, DL.isN, DL.isiG, DL.isD, DL.isAnyG, DL.isAny, DL.isInsG, DL.lenG_str, DL.lenG_lst, DL.lenG_tup, DL.lenG_dK, DL.lenG_scr, DL.intG_int, DL.intG_bl, DL.intG_str, DL.strG, DL.absG, DL.two, DL.listG2_dK, DL.listG2_lst, DL.listG2_tup, DL.listG2_scr, DL.tupleG_lst, DL.tupleG_tup, DL.allG, DL.dSlice, DL.dNo, DL.dPart, DL.cutD_str, DL.cutD_lst, DL.cutD_tup, DL.dGNil, DL.dGCons, DL.dTupT, DL.dIter, DL.dRange1, DL.dRange2, DL.atI_0, DL.atI_1, DL.atI_2, DL.atI_3, DL.atI_4, DL.hotAt, DL.putAt, DL.SV.put, DL.dAppend, DL.dExtend, DL.sStore, DL.storeD, DL.sFldD, DL.putFD, DL.dFld, DL.splitG, DL.partitionG, DL.startsG, DL.joinG, DL.dClear, List.getElem?_cons_zero, List.getElem?_cons_succ, List.set_cons_zero, List.set_cons_succ, List.length_cons, List.length_nil, List.map_cons, List.map_nil, List.replicate_succ, List.replicate_zero, List.nil_append, List.cons_append, Nat.reduceAdd, Nat.reduceSub, Bool.bne_false, Bool.bne_true, Bool.not_true, Bool.not_false, decide_eq_true_eq, Bool.false_eq_true, reduceIte, and_true, true_and, if_true, if_false, decide_true, decide_false]
end K86

set_option Elab.async false
set_option linter.all false
set_option maxRecDepth 100000
set_option maxHeartbeats 2000000
namespace K86
open PySem L2 DL PySem.Spec PyProof.Rows
section
variable {P : Program} {w : World} {mg : Str → Option Value} {base : Heap} {W : Wd} {A : Ad}
theorem ok_fraction_text (T : Tx W mg A) : FnOk P w W.K mg base CX0 1 A.f_fraction_text A.fd_fraction_text ["fraction"] (spP W M_fraction_text) :=
  fn_P T.F_fraction_text sc_fraction_text (by rintro _ _ ⟨_, _, h, _⟩; rw [h]; rfl) (d_fraction_text T ) h_fraction_text
theorem ok_Prices_table (T : Tx W mg A) : FnOk P w W.K mg base CX0 1 A.f_Prices_table A.fd_Prices_table ["self"] (spN W M_Prices_table) :=
  fn_N T.F_Prices_table sc_Prices_table (by rintro _ _ ⟨_, _, _, _, h, _⟩; rw [h]; rfl) (d_Prices_table T ) h_Prices_table
theorem ok_prices_text (T : Tx W mg A) : FnOk P w W.K mg base CX0 3 A.f_prices_text A.fd_prices_text ["prices"] (spP W M_prices_text) :=
  fn_P T.F_prices_text sc_prices_text (by rintro _ _ ⟨_, _, _, _, h, _⟩; rw [h]; rfl) (d_prices_text T (ok_fraction_text T) (ok_Prices_table T)) h_prices_text
theorem ok__law_fraction_text (T : Tx W mg A) : FnOk P w W.K mg base CX0 1 A.f__law_fraction_text A.fd__law_fraction_text ["_law_fraction_here"] (spP W M__law_fraction_text) :=
  fn_P T.F__law_fraction_text sc__law_fraction_text (by rintro _ _ ⟨_, _, h, _⟩; rw [h]; rfl) (d__law_fraction_text T ) h__law_fraction_text
theorem ok__law_prices_text (T : Tx W mg A) : FnOk P w W.K mg base CX0 2 A.f__law_prices_text A.fd__law_prices_text ["_law_rows_here", "_law_width", "_law_table_here"] (spP W M__law_prices_text) :=
  fn_P T.F__law_prices_text sc__law_prices_text (by rintro _ _ ⟨_, _, _, _, h, _⟩; rw [h]; rfl) (d__law_prices_text T (ok__law_fraction_text T)) h__law_prices_text
theorem ok_Prices_eq (T : Tx W mg A) : FnOk P w W.K mg base CX0 1 A.f_Prices_eq A.fd_Prices_eq ["self", "other"] (spP W M_Prices_eq) :=
  fn_P T.F_Prices_eq sc_Prices_eq (by rintro _ _ ⟨_, _, _, _, _, _, h, _⟩; rw [h]; rfl) (d_Prices_eq T ) h_Prices_eq
theorem ok__law_is (T : Tx W mg A) : FnOk P w W.K mg base CX0 2 A.f__law_is A.fd__law_is ["_law_told", "_law_due"] (spP W M__law_is) := by
  have z : FnOk P w W.K mg base CX0 0 A.f__law_is A.fd__law_is ["_law_told", "_law_due"] (spP W fun _ _ => False) := fn_none
  have h0 : FnOk P w W.K mg base CX0 1 A.f__law_is A.fd__law_is ["_law_told", "_law_due"] (spP W M__law_is0) :=
    fn_P T.F__law_is sc__law_is (by rintro _ _ ⟨_, _, h, _⟩; rw [h]; rfl) (d__law_is T (Nat.le_refl 0) z) h__law_is0
  exact fn_P T.F__law_is sc__law_is (by rintro _ _ ⟨_, _, _, _, h | h, _⟩ <;> rw [h] <;> rfl) (d__law_is T (Nat.le_refl 1) h0) h__law_is
theorem ok_common_divisor (T : Tx W mg A) : FnOk P w W.K mg base CX0 1 A.f_common_divisor A.fd_common_divisor ["one", "other"] (spP W M_common_divisor) :=
  fn_P T.F_common_divisor sc_common_divisor (by rintro _ _ ⟨_, _, h, _⟩; rw [h]; rfl) (d_common_divisor T ) h_common_divisor
theorem ok_is_integer (T : Tx W mg A) : FnOk P w W.K mg base CX0 1 A.f_is_integer A.fd_is_integer ["thing"] (spP W M_is_integer) :=
  fn_P T.F_is_integer sc_is_integer (by rintro _ _ ⟨_, h, _⟩; rw [h]; rfl) (d_is_integer T ) h_is_integer
theorem ok_is_pair (T : Tx W mg A) : FnOk P w W.K mg base CX0 1 A.f_is_pair A.fd_is_pair ["thing"] (spP W M_is_pair) :=
  fn_P T.F_is_pair sc_is_pair (by rintro _ _ ⟨_, _, h, _⟩; rw [h]; rfl) (d_is_pair T ) h_is_pair
theorem ok_is_fraction (T : Tx W mg A) : FnOk P w W.K mg base CX0 2 A.f_is_fraction A.fd_is_fraction ["thing"] (spP W M_is_fraction) :=
  fn_P T.F_is_fraction sc_is_fraction (by rintro _ _ ⟨_, _, h, _⟩; rw [h]; rfl) (d_is_fraction T (ok_common_divisor T) (ok_is_integer T) (ok_is_pair T)) h_is_fraction
theorem ok_is_table (T : Tx W mg A) : FnOk P w W.K mg base CX0 3 A.f_is_table A.fd_is_table ["thing", "names"] (spP W M_is_table) :=
  fn_P T.F_is_table sc_is_table (by rintro _ _ ⟨_, _, _, _, h, _⟩; rw [h]; rfl) (d_is_table T (ok_is_fraction T)) h_is_table
theorem ok_codes_of_length (T : Tx W mg A) : FnOk P w W.K mg base CX0 1 A.f_codes_of_length A.fd_codes_of_length ["rows", "length"] (spN W M_codes_of_length) :=
  fn_N T.F_codes_of_length sc_codes_of_length (by rintro _ _ ⟨_, _, _, _, h, _⟩; rw [h]; rfl) (d_codes_of_length T ) h_codes_of_length
theorem ok_stretch_names (T : Tx W mg A) : FnOk P w W.K mg base CX0 2 A.f_stretch_names A.fd_stretch_names ["rows", "width"] (spP W M_stretch_names) :=
  fn_P T.F_stretch_names sc_stretch_names (by rintro _ _ ⟨_, _, _, h, _⟩; rw [h]; rfl) (d_stretch_names T (ok_codes_of_length T)) h_stretch_names
theorem ok_is_within (T : Tx W mg A) : FnOk P w W.K mg base CX0 2 A.f_is_within A.fd_is_within ["thing", "least", "most"] (spP W M_is_within) :=
  fn_P T.F_is_within sc_is_within (by rintro _ _ ⟨_, _, _, h, _⟩; rw [h]; rfl) (d_is_within T (ok_is_integer T)) h_is_within
theorem ok_is_width (T : Tx W mg A) : FnOk P w W.K mg base CX0 3 A.f_is_width A.fd_is_width ["thing"] (spP W M_is_width) :=
  fn_P T.F_is_width sc_is_width (by rintro _ _ ⟨_, _, _, h, _⟩; rw [h]; rfl) (d_is_width T (ok_is_within T)) h_is_width
theorem ok_is_ascending (T : Tx W mg A) : FnOk P w W.K mg base CX0 1 A.f_is_ascending A.fd_is_ascending ["word"] (spP W M_is_ascending) :=
  fn_P T.F_is_ascending sc_is_ascending (by rintro _ _ ⟨_, _, h, _⟩; rw [h]; rfl) (d_is_ascending T ) h_is_ascending
theorem ok_is_string_of (T : Tx W mg A) : FnOk P w W.K mg base CX0 1 A.f_is_string_of A.fd_is_string_of ["thing", "signs"] (spP W M_is_string_of) :=
  fn_P T.F_is_string_of sc_is_string_of (by rintro _ _ ⟨_, _, h, _⟩; rw [h]; rfl) (d_is_string_of T ) h_is_string_of
theorem ok_is_word (T : Tx W mg A) : FnOk P w W.K mg base CX0 2 A.f_is_word A.fd_is_word ["thing"] (spP W M_is_word) :=
  fn_P T.F_is_word sc_is_word (by rintro _ _ ⟨_, _, h, _⟩; rw [h]; rfl) (d_is_word T (ok_is_string_of T)) h_is_word
theorem ok_is_rows (T : Tx W mg A) : FnOk P w W.K mg base CX0 3 A.f_is_rows A.fd_is_rows ["thing"] (spP W M_is_rows) :=
  fn_P T.F_is_rows sc_is_rows (by rintro _ _ ⟨_, _, h, _⟩; rw [h]; rfl) (d_is_rows T (ok_is_ascending T) (ok_is_word T)) h_is_rows
theorem ok_Prices_init (T : Tx W mg A) : FnOk P w W.K mg base CX0 4 A.f_Prices_init A.fd_Prices_init ["self", "rows", "width", "table"] (spT W M_Prices_init) :=
  fn_T T.F_Prices_init sc_Prices_init (by rintro _ _ _ _ ⟨_, _, _, _, _, h, _⟩; rw [h]; rfl) (by decide) (d_Prices_init T (ok_is_table T) (ok_stretch_names T) (ok_is_width T) (ok_is_rows T)) h_Prices_init
theorem ok_is_stretch (T : Tx W mg A) : FnOk P w W.K mg base CX0 3 A.f_is_stretch A.fd_is_stretch ["word"] (spP W M_is_stretch) :=
  fn_P T.F_is_stretch sc_is_stretch (by rintro _ _ ⟨_, _, h, _⟩; rw [h]; rfl) (d_is_stretch T (ok_is_word T)) h_is_stretch
theorem ok_number_of (T : Tx W mg A) : FnOk P w W.K mg base CX0 2 A.f_number_of A.fd_number_of ["word", "figures"] (spP W M_number_of) :=
  fn_P T.F_number_of sc_number_of (by rintro _ _ ⟨_, _, h, _⟩; rw [h]; rfl) (d_number_of T (ok_is_string_of T)) h_number_of
theorem ok_fraction_of (T : Tx W mg A) : FnOk P w W.K mg base CX0 3 A.f_fraction_of A.fd_fraction_of ["word"] (spP W M_fraction_of) :=
  fn_P T.F_fraction_of sc_fraction_of (by rintro _ _ ⟨_, _, h, _⟩; rw [h]; rfl) (d_fraction_of T (ok_number_of T)) h_fraction_of
theorem ok_head_of (T : Tx W mg A) : FnOk P w W.K mg base CX0 3 A.f_head_of A.fd_head_of ["line", "word", "figures"] (spP W M_head_of) :=
  fn_P T.F_head_of sc_head_of (by rintro _ _ ⟨_, _, _, h, _⟩; rw [h]; rfl) (d_head_of T (ok_is_word T)) h_head_of
theorem ok_lines_of (T : Tx W mg A) : FnOk P w W.K mg base CX0 1 A.f_lines_of A.fd_lines_of ["text"] (spP W M_lines_of) :=
  fn_P T.F_lines_of sc_lines_of (by rintro _ _ ⟨_, _, _, _, h, _⟩; rw [h]; rfl) (d_lines_of T ) h_lines_of
theorem ok_read_prices (T : Tx W mg A) : FnOk P w W.K mg base CX0 6 A.f_read_prices A.fd_read_prices ["text"] (spN W M_read_prices) :=
  fn_N T.F_read_prices sc_read_prices (by rintro _ _ ⟨_, _, _, _, h, _⟩; rw [h]; rfl) (d_read_prices T (ok_Prices_init T) (ok_is_stretch T) (ok_fraction_of T) (ok_head_of T) (ok_lines_of T)) h_read_prices
theorem ok__law_holds (T : Tx W mg A) : FnOk P w W.K mg base CX0 7 A.f__law_holds A.fd__law_holds ["_law_rows_here", "_law_width", "_law_table_here", "_law_prices"] (spP W M__law_holds) :=
  fn_P T.F__law_holds sc__law_holds (by rintro _ _ ⟨_, _, _, _, h, _⟩; rw [h]; rfl) (d__law_holds T (ok_prices_text T) (ok__law_is T) (ok_Prices_table T) (ok_Prices_eq T) (ok_read_prices T) (ok__law_prices_text T)) h__law_holds
theorem ok__law_lowest (T : Tx W mg A) : FnOk P w W.K mg base CX0 1 A.f__law_lowest A.fd__law_lowest ["_law_top", "_law_bottom"] (spP W M__law_lowest) :=
  fn_P T.F__law_lowest sc__law_lowest (by rintro _ _ ⟨_, _, _, _, _, h, _⟩; rw [h]; rfl) (d__law_lowest T ) h__law_lowest
theorem ok__law_pick (T : Tx W mg A) : FnOk P w W.K mg base CX0 1 A.f__law_pick A.fd__law_pick ["_law_tape_here", "_law_size"] (spT W M__law_pick) :=
  fn_T T.F__law_pick sc__law_pick (by rintro _ _ _ _ ⟨_, _, _, _, _, _, _, h, _⟩; rw [h]; rfl) (by decide) (d__law_pick T ) h__law_pick
theorem ok__law_fraction (T : Tx W mg A) : FnOk P w W.K mg base CX0 2 A.f__law_fraction A.fd__law_fraction ["_law_tape_here"] (spT W M__law_fraction) :=
  fn_T T.F__law_fraction sc__law_fraction (by rintro _ _ _ _ ⟨_, _, _, _, h, _⟩; rw [h]; rfl) (by decide) (d__law_fraction T (ok__law_lowest T) (ok__law_pick T)) h__law_fraction
theorem ok__law_all_stretches (T : Tx W mg A) : FnOk P w W.K mg base CX0 1 A.f__law_all_stretches A.fd__law_all_stretches ["_law_rows_here", "_law_width"] (spP W M__law_all_stretches) :=
  fn_P T.F__law_all_stretches sc__law_all_stretches (by rintro _ _ ⟨_, _, _, h, _⟩; rw [h]; rfl) (d__law_all_stretches T ) h__law_all_stretches
theorem ok__law_table (T : Tx W mg A) : FnOk P w W.K mg base CX0 3 A.f__law_table A.fd__law_table ["_law_tape_here", "_law_rows_here", "_law_width"] (spTN W M__law_table) :=
  fn_TN T.F__law_table sc__law_table (by rintro _ _ _ _ ⟨_, _, _, _, _, _, _, h, _⟩; rw [h]; rfl) (by decide) (d__law_table T (ok__law_fraction T) (ok__law_all_stretches T)) h__law_table
theorem ok__law_rows (T : Tx W mg A) : FnOk P w W.K mg base CX0 2 A.f__law_rows A.fd__law_rows ["_law_tape_here", "_law_most"] (spT W M__law_rows) :=
  fn_T T.F__law_rows sc__law_rows (by rintro _ _ _ _ ⟨_, _, _, _, _, _, _, h, _⟩; rw [h]; rfl) (by decide) (d__law_rows T (ok__law_pick T)) h__law_rows
theorem ok__law_tape (T : Tx W mg A) : FnOk P w W.K mg base CX0 1 A.f__law_tape A.fd__law_tape ["_law_script"] (spN W M__law_tape) :=
  fn_N T.F__law_tape sc__law_tape (by rintro _ _ ⟨_, h, _⟩; rw [h]; rfl) (d__law_tape T ) h__law_tape
theorem ok_law (T : Tx W mg A) : FnOk P w W.K mg base CX0 8 A.f_law A.fd_law ["_law_script"] (spP W M_law) :=
  fn_P T.F_law sc_law (by rintro _ _ ⟨_, _, h, _⟩; rw [h]; rfl) (d_law T (ok_prices_text T) (ok__law_prices_text T) (ok_Prices_eq T) (ok__law_holds T) (ok_Prices_init T) (ok__law_fraction T) (ok__law_pick T) (ok__law_table T) (ok__law_rows T) (ok__law_tape T)) h_law
end
def spLaw (K : PySem.W.Frag) : Sp := fun vs H Q _ => ∃ (a : Addr) (ns : List Int), vs = [.ref a] ∧ SqL K H a (ns.map V.int) ∧ ns.length ≤ 63 ∧ ∀ H', Q (.bl true) H'
theorem sp_law {W : Wd} : ∀ vs H Q E, spLaw W.K vs H Q E → spP W M_law vs H Q E := by
  rintro _ H Q E ⟨a, ns, rfl, hS, hl, go⟩
  rcases hS with (h | ⟨o, h⟩) | h
  · refine ⟨upd (fun _ => none) a (.lst (ns.map V.int)), [.scr ns], .bl true, fun b u e => ?_, .cons (.scr (.inl (.inl upd_same))) .nil, ⟨ns, hl, rfl, rfl⟩, fun v F' H' _ _ r => by cases r; exact go H'⟩
    by_cases z : b = a
    · subst z; rw [upd_same] at e; cases e; exact .inl h
    · rw [upd_ne z] at e; cases e
  · refine ⟨upd (fun _ => none) a (.frz o (.lst (ns.map V.int))), [.scr ns], .bl true, fun b u e => ?_, .cons (.scr (.inl (.inr ⟨o, upd_same⟩))) .nil, ⟨ns, hl, rfl, rfl⟩, fun v F' H' _ _ r => by cases r; exact go H'⟩
    by_cases z : b = a
    · subst z; rw [upd_same] at e; cases e; exact .inl h
    · rw [upd_ne z] at e; cases e
  · have le : LeR (fun _ => none) H := by intro b u e; cases e
    exact ⟨fun _ => none, [.scr ns], .bl true, le, .cons (.scr (.inr h)) .nil, ⟨ns, hl, rfl, rfl⟩, fun v F' H' _ _ r => by cases r; exact go H'⟩
theorem all_mk {l : PySem.W.OpenLaw} {w : World} {K : PySem.W.Frag} {h : Heap} {mg : Str → Option Value} {fa C_Prices p_Prices_table f_fraction_text f_Prices_table f_prices_text f__law_fraction_text f__law_prices_text f_Prices_eq f__law_is f_common_divisor f_is_integer f_is_pair f_is_fraction f_is_table f_codes_of_length f_stretch_names f_is_within f_is_width f_is_ascending f_is_string_of f_is_word f_is_rows f_Prices_init f_is_stretch f_number_of f_fraction_of f_head_of f_lines_of f_read_prices f__law_holds f__law_lowest f__law_pick f__law_fraction f__law_all_stretches f__law_table f__law_rows f__law_tape f_law : Addr} {rest_Prices_table : List Value} {oc_fraction_text : Value} {kV_fraction_text : Value} {dc_fraction_text : Value} {pm_fraction_text : Value} {cd_fraction_text : Value} {ct_fraction_text : Value} {od_fraction_text : Option Addr} {an_fraction_text : Option Addr} {sl_fraction_text : Array (Option Value)} {oc_Prices_table : Value} {kV_Prices_table : Value} {dc_Prices_table : Value} {pm_Prices_table : Value} {cd_Prices_table : Value} {ct_Prices_table : Value} {od_Prices_table : Option Addr} {an_Prices_table : Option Addr} {sl_Prices_table : Array (Option Value)} {oc_prices_text : Value} {kV_prices_text : Value} {dc_prices_text : Value} {pm_prices_text : Value} {cd_prices_text : Value} {ct_prices_text : Value} {od_prices_text : Option Addr} {an_prices_text : Option Addr} {sl_prices_text : Array (Option Value)} {oc__law_fraction_text : Value} {kV__law_fraction_text : Value} {dc__law_fraction_text : Value} {pm__law_fraction_text : Value} {cd__law_fraction_text : Value} {ct__law_fraction_text : Value} {od__law_fraction_text : Option Addr} {an__law_fraction_text : Option Addr} {sl__law_fraction_text : Array (Option Value)} {oc__law_prices_text : Value} {kV__law_prices_text : Value} {dc__law_prices_text : Value} {pm__law_prices_text : Value} {cd__law_prices_text : Value} {ct__law_prices_text : Value} {od__law_prices_text : Option Addr} {an__law_prices_text : Option Addr} {sl__law_prices_text : Array (Option Value)} {oc_Prices_eq : Value} {kV_Prices_eq : Value} {dc_Prices_eq : Value} {pm_Prices_eq : Value} {cd_Prices_eq : Value} {ct_Prices_eq : Value} {od_Prices_eq : Option Addr} {an_Prices_eq : Option Addr} {sl_Prices_eq : Array (Option Value)} {oc__law_is : Value} {kV__law_is : Value} {dc__law_is : Value} {pm__law_is : Value} {cd__law_is : Value} {ct__law_is : Value} {od__law_is : Option Addr} {an__law_is : Option Addr} {sl__law_is : Array (Option Value)} {oc_common_divisor : Value} {kV_common_divisor : Value} {dc_common_divisor : Value} {pm_common_divisor : Value} {cd_common_divisor : Value} {ct_common_divisor : Value} {od_common_divisor : Option Addr} {an_common_divisor : Option Addr} {sl_common_divisor : Array (Option Value)} {oc_is_integer : Value} {kV_is_integer : Value} {dc_is_integer : Value} {pm_is_integer : Value} {cd_is_integer : Value} {ct_is_integer : Value} {od_is_integer : Option Addr} {an_is_integer : Option Addr} {sl_is_integer : Array (Option Value)} {oc_is_pair : Value} {kV_is_pair : Value} {dc_is_pair : Value} {pm_is_pair : Value} {cd_is_pair : Value} {ct_is_pair : Value} {od_is_pair : Option Addr} {an_is_pair : Option Addr} {sl_is_pair : Array (Option Value)} {oc_is_fraction : Value} {kV_is_fraction : Value} {dc_is_fraction : Value} {pm_is_fraction : Value} {cd_is_fraction : Value} {ct_is_fraction : Value} {od_is_fraction : Option Addr} {an_is_fraction : Option Addr} {sl_is_fraction : Array (Option Value)} {oc_is_table : Value} {kV_is_table : Value} {dc_is_table : Value} {pm_is_table : Value} {cd_is_table : Value} {ct_is_table : Value} {od_is_table : Option Addr} {an_is_table : Option Addr} {sl_is_table : Array (Option Value)} {oc_codes_of_length : Value} {kV_codes_of_length : Value} {dc_codes_of_length : Value} {pm_codes_of_length : Value} {cd_codes_of_length : Value} {ct_codes_of_length : Value} {od_codes_of_length : Option Addr} {an_codes_of_length : Option Addr} {sl_codes_of_length : Array (Option Value)} {oc_stretch_names : Value} {kV_stretch_names : Value} {dc_stretch_names : Value} {pm_stretch_names : Value} {cd_stretch_names : Value} {ct_stretch_names : Value} {od_stretch_names : Option Addr} {an_stretch_names : Option Addr} {sl_stretch_names : Array (Option Value)} {oc_is_within : Value} {kV_is_within : Value} {dc_is_within : Value} {pm_is_within : Value} {cd_is_within : Value} {ct_is_within : Value} {od_is_within : Option Addr} {an_is_within : Option Addr} {sl_is_within : Array (Option Value)} {oc_is_width : Value} {kV_is_width : Value} {dc_is_width : Value} {pm_is_width : Value} {cd_is_width : Value} {ct_is_width : Value} {od_is_width : Option Addr} {an_is_width : Option Addr} {sl_is_width : Array (Option Value)} {oc_is_ascending : Value} {kV_is_ascending : Value} {dc_is_ascending : Value} {pm_is_ascending : Value} {cd_is_ascending : Value} {ct_is_ascending : Value} {od_is_ascending : Option Addr} {an_is_ascending : Option Addr} {sl_is_ascending : Array (Option Value)} {oc_is_string_of : Value} {kV_is_string_of : Value} {dc_is_string_of : Value} {pm_is_string_of : Value} {cd_is_string_of : Value} {ct_is_string_of : Value} {od_is_string_of : Option Addr} {an_is_string_of : Option Addr} {sl_is_string_of : Array (Option Value)} {oc_is_word : Value} {kV_is_word : Value} {dc_is_word : Value} {pm_is_word : Value} {cd_is_word : Value} {ct_is_word : Value} {od_is_word : Option Addr} {an_is_word : Option Addr} {sl_is_word : Array (Option Value)} {oc_is_rows : Value} {kV_is_rows : Value} {dc_is_rows : Value} {pm_is_rows : Value} {cd_is_rows : Value} {ct_is_rows : Value} {od_is_rows : Option Addr} {an_is_rows : Option Addr} {sl_is_rows : Array (Option Value)} {oc_Prices_init : Value} {kV_Prices_init : Value} {dc_Prices_init : Value} {pm_Prices_init : Value} {cd_Prices_init : Value} {ct_Prices_init : Value} {od_Prices_init : Option Addr} {an_Prices_init : Option Addr} {sl_Prices_init : Array (Option Value)} {oc_is_stretch : Value} {kV_is_stretch : Value} {dc_is_stretch : Value} {pm_is_stretch : Value} {cd_is_stretch : Value} {ct_is_stretch : Value} {od_is_stretch : Option Addr} {an_is_stretch : Option Addr} {sl_is_stretch : Array (Option Value)} {oc_number_of : Value} {kV_number_of : Value} {dc_number_of : Value} {pm_number_of : Value} {cd_number_of : Value} {ct_number_of : Value} {od_number_of : Option Addr} {an_number_of : Option Addr} {sl_number_of : Array (Option Value)} {oc_fraction_of : Value} {kV_fraction_of : Value} {dc_fraction_of : Value} {pm_fraction_of : Value} {cd_fraction_of : Value} {ct_fraction_of : Value} {od_fraction_of : Option Addr} {an_fraction_of : Option Addr} {sl_fraction_of : Array (Option Value)} {oc_head_of : Value} {kV_head_of : Value} {dc_head_of : Value} {pm_head_of : Value} {cd_head_of : Value} {ct_head_of : Value} {od_head_of : Option Addr} {an_head_of : Option Addr} {sl_head_of : Array (Option Value)} {oc_lines_of : Value} {kV_lines_of : Value} {dc_lines_of : Value} {pm_lines_of : Value} {cd_lines_of : Value} {ct_lines_of : Value} {od_lines_of : Option Addr} {an_lines_of : Option Addr} {sl_lines_of : Array (Option Value)} {oc_read_prices : Value} {kV_read_prices : Value} {dc_read_prices : Value} {pm_read_prices : Value} {cd_read_prices : Value} {ct_read_prices : Value} {od_read_prices : Option Addr} {an_read_prices : Option Addr} {sl_read_prices : Array (Option Value)} {oc__law_holds : Value} {kV__law_holds : Value} {dc__law_holds : Value} {pm__law_holds : Value} {cd__law_holds : Value} {ct__law_holds : Value} {od__law_holds : Option Addr} {an__law_holds : Option Addr} {sl__law_holds : Array (Option Value)} {oc__law_lowest : Value} {kV__law_lowest : Value} {dc__law_lowest : Value} {pm__law_lowest : Value} {cd__law_lowest : Value} {ct__law_lowest : Value} {od__law_lowest : Option Addr} {an__law_lowest : Option Addr} {sl__law_lowest : Array (Option Value)} {oc__law_pick : Value} {kV__law_pick : Value} {dc__law_pick : Value} {pm__law_pick : Value} {cd__law_pick : Value} {ct__law_pick : Value} {od__law_pick : Option Addr} {an__law_pick : Option Addr} {sl__law_pick : Array (Option Value)} {oc__law_fraction : Value} {kV__law_fraction : Value} {dc__law_fraction : Value} {pm__law_fraction : Value} {cd__law_fraction : Value} {ct__law_fraction : Value} {od__law_fraction : Option Addr} {an__law_fraction : Option Addr} {sl__law_fraction : Array (Option Value)} {oc__law_all_stretches : Value} {kV__law_all_stretches : Value} {dc__law_all_stretches : Value} {pm__law_all_stretches : Value} {cd__law_all_stretches : Value} {ct__law_all_stretches : Value} {od__law_all_stretches : Option Addr} {an__law_all_stretches : Option Addr} {sl__law_all_stretches : Array (Option Value)} {oc__law_table : Value} {kV__law_table : Value} {dc__law_table : Value} {pm__law_table : Value} {cd__law_table : Value} {ct__law_table : Value} {od__law_table : Option Addr} {an__law_table : Option Addr} {sl__law_table : Array (Option Value)} {oc__law_rows : Value} {kV__law_rows : Value} {dc__law_rows : Value} {pm__law_rows : Value} {cd__law_rows : Value} {ct__law_rows : Value} {od__law_rows : Option Addr} {an__law_rows : Option Addr} {sl__law_rows : Array (Option Value)} {oc__law_tape : Value} {kV__law_tape : Value} {dc__law_tape : Value} {pm__law_tape : Value} {cd__law_tape : Value} {ct__law_tape : Value} {od__law_tape : Option Addr} {an__law_tape : Option Addr} {sl__law_tape : Array (Option Value)} {oc_law : Value} {kV_law : Value} {dc_law : Value} {pm_law : Value} {cd_law : Value} {ct_law : Value} {od_law : Option Addr} {an_law : Option Addr} {sl_law : Array (Option Value)} {t_FIGURES_tok : Tok} {t_MOST_PARTS_tok : Tok} {t_MOST_ROWS_tok : Tok} {t_MOST_WIDTH_tok : Tok} {t_SMALL_tok : Tok}
  (X : K.In h) (G : h.Ns mainGlobals mg) (hfa : mg "law" = some (.ref fa))
  (aC_Prices : PySem.W.nsIn K mainGlobals "Prices" = some (some (.ref C_Prices)))
  (pg_Prices : PySem.W.plainGet K C_Prices Str.empty = true)
  (hd_Prices : PySem.W.hasDictIn K C_Prices = true)
  (po_Prices : PySem.W.plainOver K C_Prices = true)
  (sa_Prices : PySem.W.findIn K (.ref C_Prices) "__setattr__" = some (some (.builtin "object.__setattr__")))
  (mk_Prices : PySem.W.makesIn K C_Prices = true)
  (kc_Prices : PySem.W.keepIn K (.ref C_Prices) = true)
  (ia_Prices : PySem.W.findIn K (.ref C_Prices) "__class__" = some (some (.builtin "object.__class__")))
  (in_Prices : PySem.W.specialIn K (.builtin "object.__class__") "__get__" = some (some (.builtin "getset_descriptor.__get__")))
  (it_Prices : PySem.W.takesIn K (.builtin "object.__class__") = some true)
  (im_Prices : PySem.W.mroIn K C_Prices (.type "object") = some true)
  (no_Prices_rows : PySem.W.findIn K (.ref C_Prices) "rows" = some none)
  (no_Prices_width : PySem.W.findIn K (.ref C_Prices) "width" = some none)
  (no_Prices_kept_table : PySem.W.findIn K (.ref C_Prices) "kept_table" = some none)
  (p1_Prices_table : PySem.W.findIn K (.ref C_Prices) "table" = some (some (.ref p_Prices_table)))
  (p2_Prices_table : PySem.W.specialIn K (.ref p_Prices_table) "__get__" = some (some (.builtin "property.__get__")))
  (p3_Prices_table : PySem.W.takesIn K (.ref p_Prices_table) = some true)
  (p4_Prices_table : PySem.W.recIn K p_Prices_table "property" = some (.ref f_Prices_table :: rest_Prices_table))
  (a_fraction_text : PySem.W.nsIn K mainGlobals "fraction_text" = some (some (.ref f_fraction_text)))
  (l_fraction_text : K.lookup f_fraction_text = some ⟨oc_fraction_text, od_fraction_text, .func (PySem.W.fnOf "fraction_text" "fraction_text" (defArgs s_fraction_text) (defBody s_fraction_text) (defScope s_fraction_text) .none kV_fraction_text dc_fraction_text pm_fraction_text an_fraction_text cd_fraction_text ct_fraction_text), sl_fraction_text⟩)
  (c_fraction_text : PySem.W.codeIn K cd_fraction_text "fraction_text" = true)
  (k_fraction_text : PySem.W.keepIn K (.ref f_fraction_text) = true)
  (l_Prices_table : K.lookup f_Prices_table = some ⟨oc_Prices_table, od_Prices_table, .func (PySem.W.fnOf "table" "Prices.table" (defArgs s_Prices_table) (defBody s_Prices_table) (defScope s_Prices_table) .none kV_Prices_table dc_Prices_table pm_Prices_table an_Prices_table cd_Prices_table ct_Prices_table), sl_Prices_table⟩)
  (c_Prices_table : PySem.W.codeIn K cd_Prices_table "Prices.table" = true)
  (k_Prices_table : PySem.W.keepIn K (.ref f_Prices_table) = true)
  (a_prices_text : PySem.W.nsIn K mainGlobals "prices_text" = some (some (.ref f_prices_text)))
  (l_prices_text : K.lookup f_prices_text = some ⟨oc_prices_text, od_prices_text, .func (PySem.W.fnOf "prices_text" "prices_text" (defArgs s_prices_text) (defBody s_prices_text) (defScope s_prices_text) .none kV_prices_text dc_prices_text pm_prices_text an_prices_text cd_prices_text ct_prices_text), sl_prices_text⟩)
  (c_prices_text : PySem.W.codeIn K cd_prices_text "prices_text" = true)
  (k_prices_text : PySem.W.keepIn K (.ref f_prices_text) = true)
  (a__law_fraction_text : PySem.W.nsIn K mainGlobals "_law_fraction_text" = some (some (.ref f__law_fraction_text)))
  (l__law_fraction_text : K.lookup f__law_fraction_text = some ⟨oc__law_fraction_text, od__law_fraction_text, .func (PySem.W.fnOf "_law_fraction_text" "_law_fraction_text" (defArgs s__law_fraction_text) (defBody s__law_fraction_text) (defScope s__law_fraction_text) .none kV__law_fraction_text dc__law_fraction_text pm__law_fraction_text an__law_fraction_text cd__law_fraction_text ct__law_fraction_text), sl__law_fraction_text⟩)
  (c__law_fraction_text : PySem.W.codeIn K cd__law_fraction_text "_law_fraction_text" = true)
  (k__law_fraction_text : PySem.W.keepIn K (.ref f__law_fraction_text) = true)
  (a__law_prices_text : PySem.W.nsIn K mainGlobals "_law_prices_text" = some (some (.ref f__law_prices_text)))
  (l__law_prices_text : K.lookup f__law_prices_text = some ⟨oc__law_prices_text, od__law_prices_text, .func (PySem.W.fnOf "_law_prices_text" "_law_prices_text" (defArgs s__law_prices_text) (defBody s__law_prices_text) (defScope s__law_prices_text) .none kV__law_prices_text dc__law_prices_text pm__law_prices_text an__law_prices_text cd__law_prices_text ct__law_prices_text), sl__law_prices_text⟩)
  (c__law_prices_text : PySem.W.codeIn K cd__law_prices_text "_law_prices_text" = true)
  (k__law_prices_text : PySem.W.keepIn K (.ref f__law_prices_text) = true)
  (a_Prices_eq : PySem.W.findIn K (.ref C_Prices) "__eq__" = some (some (.ref f_Prices_eq)))
  (i_Prices_eq : PySem.W.isFn K (.ref f_Prices_eq) = true)
  (l_Prices_eq : K.lookup f_Prices_eq = some ⟨oc_Prices_eq, od_Prices_eq, .func (PySem.W.fnOf "__eq__" "Prices.__eq__" (defArgs s_Prices_eq) (defBody s_Prices_eq) (defScope s_Prices_eq) .none kV_Prices_eq dc_Prices_eq pm_Prices_eq an_Prices_eq cd_Prices_eq ct_Prices_eq), sl_Prices_eq⟩)
  (c_Prices_eq : PySem.W.codeIn K cd_Prices_eq "Prices.__eq__" = true)
  (k_Prices_eq : PySem.W.keepIn K (.ref f_Prices_eq) = true)
  (a__law_is : PySem.W.nsIn K mainGlobals "_law_is" = some (some (.ref f__law_is)))
  (l__law_is : K.lookup f__law_is = some ⟨oc__law_is, od__law_is, .func (PySem.W.fnOf "_law_is" "_law_is" (defArgs s__law_is) (defBody s__law_is) (defScope s__law_is) .none kV__law_is dc__law_is pm__law_is an__law_is cd__law_is ct__law_is), sl__law_is⟩)
  (c__law_is : PySem.W.codeIn K cd__law_is "_law_is" = true)
  (k__law_is : PySem.W.keepIn K (.ref f__law_is) = true)
  (a_common_divisor : PySem.W.nsIn K mainGlobals "common_divisor" = some (some (.ref f_common_divisor)))
  (l_common_divisor : K.lookup f_common_divisor = some ⟨oc_common_divisor, od_common_divisor, .func (PySem.W.fnOf "common_divisor" "common_divisor" (defArgs s_common_divisor) (defBody s_common_divisor) (defScope s_common_divisor) .none kV_common_divisor dc_common_divisor pm_common_divisor an_common_divisor cd_common_divisor ct_common_divisor), sl_common_divisor⟩)
  (c_common_divisor : PySem.W.codeIn K cd_common_divisor "common_divisor" = true)
  (k_common_divisor : PySem.W.keepIn K (.ref f_common_divisor) = true)
  (a_is_integer : PySem.W.nsIn K mainGlobals "is_integer" = some (some (.ref f_is_integer)))
  (l_is_integer : K.lookup f_is_integer = some ⟨oc_is_integer, od_is_integer, .func (PySem.W.fnOf "is_integer" "is_integer" (defArgs s_is_integer) (defBody s_is_integer) (defScope s_is_integer) .none kV_is_integer dc_is_integer pm_is_integer an_is_integer cd_is_integer ct_is_integer), sl_is_integer⟩)
  (c_is_integer : PySem.W.codeIn K cd_is_integer "is_integer" = true)
  (k_is_integer : PySem.W.keepIn K (.ref f_is_integer) = true)
  (a_is_pair : PySem.W.nsIn K mainGlobals "is_pair" = some (some (.ref f_is_pair)))
  (l_is_pair : K.lookup f_is_pair = some ⟨oc_is_pair, od_is_pair, .func (PySem.W.fnOf "is_pair" "is_pair" (defArgs s_is_pair) (defBody s_is_pair) (defScope s_is_pair) .none kV_is_pair dc_is_pair pm_is_pair an_is_pair cd_is_pair ct_is_pair), sl_is_pair⟩)
  (c_is_pair : PySem.W.codeIn K cd_is_pair "is_pair" = true)
  (k_is_pair : PySem.W.keepIn K (.ref f_is_pair) = true)
  (a_is_fraction : PySem.W.nsIn K mainGlobals "is_fraction" = some (some (.ref f_is_fraction)))
  (l_is_fraction : K.lookup f_is_fraction = some ⟨oc_is_fraction, od_is_fraction, .func (PySem.W.fnOf "is_fraction" "is_fraction" (defArgs s_is_fraction) (defBody s_is_fraction) (defScope s_is_fraction) .none kV_is_fraction dc_is_fraction pm_is_fraction an_is_fraction cd_is_fraction ct_is_fraction), sl_is_fraction⟩)
  (c_is_fraction : PySem.W.codeIn K cd_is_fraction "is_fraction" = true)
  (k_is_fraction : PySem.W.keepIn K (.ref f_is_fraction) = true)
  (a_is_table : PySem.W.nsIn K mainGlobals "is_table" = some (some (.ref f_is_table)))
  (l_is_table : K.lookup f_is_table = some ⟨oc_is_table, od_is_table, .func (PySem.W.fnOf "is_table" "is_table" (defArgs s_is_table) (defBody s_is_table) (defScope s_is_table) .none kV_is_table dc_is_table pm_is_table an_is_table cd_is_table ct_is_table), sl_is_table⟩)
  (c_is_table : PySem.W.codeIn K cd_is_table "is_table" = true)
  (k_is_table : PySem.W.keepIn K (.ref f_is_table) = true)
  (a_codes_of_length : PySem.W.nsIn K mainGlobals "codes_of_length" = some (some (.ref f_codes_of_length)))
  (l_codes_of_length : K.lookup f_codes_of_length = some ⟨oc_codes_of_length, od_codes_of_length, .func (PySem.W.fnOf "codes_of_length" "codes_of_length" (defArgs s_codes_of_length) (defBody s_codes_of_length) (defScope s_codes_of_length) .none kV_codes_of_length dc_codes_of_length pm_codes_of_length an_codes_of_length cd_codes_of_length ct_codes_of_length), sl_codes_of_length⟩)
  (c_codes_of_length : PySem.W.codeIn K cd_codes_of_length "codes_of_length" = true)
  (k_codes_of_length : PySem.W.keepIn K (.ref f_codes_of_length) = true)
  (a_stretch_names : PySem.W.nsIn K mainGlobals "stretch_names" = some (some (.ref f_stretch_names)))
  (l_stretch_names : K.lookup f_stretch_names = some ⟨oc_stretch_names, od_stretch_names, .func (PySem.W.fnOf "stretch_names" "stretch_names" (defArgs s_stretch_names) (defBody s_stretch_names) (defScope s_stretch_names) .none kV_stretch_names dc_stretch_names pm_stretch_names an_stretch_names cd_stretch_names ct_stretch_names), sl_stretch_names⟩)
  (c_stretch_names : PySem.W.codeIn K cd_stretch_names "stretch_names" = true)
  (k_stretch_names : PySem.W.keepIn K (.ref f_stretch_names) = true)
  (a_is_within : PySem.W.nsIn K mainGlobals "is_within" = some (some (.ref f_is_within)))
  (l_is_within : K.lookup f_is_within = some ⟨oc_is_within, od_is_within, .func (PySem.W.fnOf "is_within" "is_within" (defArgs s_is_within) (defBody s_is_within) (defScope s_is_within) .none kV_is_within dc_is_within pm_is_within an_is_within cd_is_within ct_is_within), sl_is_within⟩)
  (c_is_within : PySem.W.codeIn K cd_is_within "is_within" = true)
  (k_is_within : PySem.W.keepIn K (.ref f_is_within) = true)
  (a_is_width : PySem.W.nsIn K mainGlobals "is_width" = some (some (.ref f_is_width)))
  (l_is_width : K.lookup f_is_width = some ⟨oc_is_width, od_is_width, .func (PySem.W.fnOf "is_width" "is_width" (defArgs s_is_width) (defBody s_is_width) (defScope s_is_width) .none kV_is_width dc_is_width pm_is_width an_is_width cd_is_width ct_is_width), sl_is_width⟩)
  (c_is_width : PySem.W.codeIn K cd_is_width "is_width" = true)
  (k_is_width : PySem.W.keepIn K (.ref f_is_width) = true)
  (a_is_ascending : PySem.W.nsIn K mainGlobals "is_ascending" = some (some (.ref f_is_ascending)))
  (l_is_ascending : K.lookup f_is_ascending = some ⟨oc_is_ascending, od_is_ascending, .func (PySem.W.fnOf "is_ascending" "is_ascending" (defArgs s_is_ascending) (defBody s_is_ascending) (defScope s_is_ascending) .none kV_is_ascending dc_is_ascending pm_is_ascending an_is_ascending cd_is_ascending ct_is_ascending), sl_is_ascending⟩)
  (c_is_ascending : PySem.W.codeIn K cd_is_ascending "is_ascending" = true)
  (k_is_ascending : PySem.W.keepIn K (.ref f_is_ascending) = true)
  (a_is_string_of : PySem.W.nsIn K mainGlobals "is_string_of" = some (some (.ref f_is_string_of)))
  (l_is_string_of : K.lookup f_is_string_of = some ⟨oc_is_string_of, od_is_string_of, .func (PySem.W.fnOf "is_string_of" "is_string_of" (defArgs s_is_string_of) (defBody s_is_string_of) (defScope s_is_string_of) .none kV_is_string_of dc_is_string_of pm_is_string_of an_is_string_of cd_is_string_of ct_is_string_of), sl_is_string_of⟩)
  (c_is_string_of : PySem.W.codeIn K cd_is_string_of "is_string_of" = true)
  (k_is_string_of : PySem.W.keepIn K (.ref f_is_string_of) = true)
  (a_is_word : PySem.W.nsIn K mainGlobals "is_word" = some (some (.ref f_is_word)))
  (l_is_word : K.lookup f_is_word = some ⟨oc_is_word, od_is_word, .func (PySem.W.fnOf "is_word" "is_word" (defArgs s_is_word) (defBody s_is_word) (defScope s_is_word) .none kV_is_word dc_is_word pm_is_word an_is_word cd_is_word ct_is_word), sl_is_word⟩)
  (c_is_word : PySem.W.codeIn K cd_is_word "is_word" = true)
  (k_is_word : PySem.W.keepIn K (.ref f_is_word) = true)
  (a_is_rows : PySem.W.nsIn K mainGlobals "is_rows" = some (some (.ref f_is_rows)))
  (l_is_rows : K.lookup f_is_rows = some ⟨oc_is_rows, od_is_rows, .func (PySem.W.fnOf "is_rows" "is_rows" (defArgs s_is_rows) (defBody s_is_rows) (defScope s_is_rows) .none kV_is_rows dc_is_rows pm_is_rows an_is_rows cd_is_rows ct_is_rows), sl_is_rows⟩)
  (c_is_rows : PySem.W.codeIn K cd_is_rows "is_rows" = true)
  (k_is_rows : PySem.W.keepIn K (.ref f_is_rows) = true)
  (a_Prices_init : PySem.W.findIn K (.ref C_Prices) "__init__" = some (some (.ref f_Prices_init)))
  (i_Prices_init : PySem.W.isFn K (.ref f_Prices_init) = true)
  (l_Prices_init : K.lookup f_Prices_init = some ⟨oc_Prices_init, od_Prices_init, .func (PySem.W.fnOf "__init__" "Prices.__init__" (defArgs s_Prices_init) (defBody s_Prices_init) (defScope s_Prices_init) .none kV_Prices_init dc_Prices_init pm_Prices_init an_Prices_init cd_Prices_init ct_Prices_init), sl_Prices_init⟩)
  (c_Prices_init : PySem.W.codeIn K cd_Prices_init "Prices.__init__" = true)
  (k_Prices_init : PySem.W.keepIn K (.ref f_Prices_init) = true)
  (a_is_stretch : PySem.W.nsIn K mainGlobals "is_stretch" = some (some (.ref f_is_stretch)))
  (l_is_stretch : K.lookup f_is_stretch = some ⟨oc_is_stretch, od_is_stretch, .func (PySem.W.fnOf "is_stretch" "is_stretch" (defArgs s_is_stretch) (defBody s_is_stretch) (defScope s_is_stretch) .none kV_is_stretch dc_is_stretch pm_is_stretch an_is_stretch cd_is_stretch ct_is_stretch), sl_is_stretch⟩)
  (c_is_stretch : PySem.W.codeIn K cd_is_stretch "is_stretch" = true)
  (k_is_stretch : PySem.W.keepIn K (.ref f_is_stretch) = true)
  (a_number_of : PySem.W.nsIn K mainGlobals "number_of" = some (some (.ref f_number_of)))
  (l_number_of : K.lookup f_number_of = some ⟨oc_number_of, od_number_of, .func (PySem.W.fnOf "number_of" "number_of" (defArgs s_number_of) (defBody s_number_of) (defScope s_number_of) .none kV_number_of dc_number_of pm_number_of an_number_of cd_number_of ct_number_of), sl_number_of⟩)
  (c_number_of : PySem.W.codeIn K cd_number_of "number_of" = true)
  (k_number_of : PySem.W.keepIn K (.ref f_number_of) = true)
  (a_fraction_of : PySem.W.nsIn K mainGlobals "fraction_of" = some (some (.ref f_fraction_of)))
  (l_fraction_of : K.lookup f_fraction_of = some ⟨oc_fraction_of, od_fraction_of, .func (PySem.W.fnOf "fraction_of" "fraction_of" (defArgs s_fraction_of) (defBody s_fraction_of) (defScope s_fraction_of) .none kV_fraction_of dc_fraction_of pm_fraction_of an_fraction_of cd_fraction_of ct_fraction_of), sl_fraction_of⟩)
  (c_fraction_of : PySem.W.codeIn K cd_fraction_of "fraction_of" = true)
  (k_fraction_of : PySem.W.keepIn K (.ref f_fraction_of) = true)
  (a_head_of : PySem.W.nsIn K mainGlobals "head_of" = some (some (.ref f_head_of)))
  (l_head_of : K.lookup f_head_of = some ⟨oc_head_of, od_head_of, .func (PySem.W.fnOf "head_of" "head_of" (defArgs s_head_of) (defBody s_head_of) (defScope s_head_of) .none kV_head_of dc_head_of pm_head_of an_head_of cd_head_of ct_head_of), sl_head_of⟩)
  (c_head_of : PySem.W.codeIn K cd_head_of "head_of" = true)
  (k_head_of : PySem.W.keepIn K (.ref f_head_of) = true)
  (a_lines_of : PySem.W.nsIn K mainGlobals "lines_of" = some (some (.ref f_lines_of)))
  (l_lines_of : K.lookup f_lines_of = some ⟨oc_lines_of, od_lines_of, .func (PySem.W.fnOf "lines_of" "lines_of" (defArgs s_lines_of) (defBody s_lines_of) (defScope s_lines_of) .none kV_lines_of dc_lines_of pm_lines_of an_lines_of cd_lines_of ct_lines_of), sl_lines_of⟩)
  (c_lines_of : PySem.W.codeIn K cd_lines_of "lines_of" = true)
  (k_lines_of : PySem.W.keepIn K (.ref f_lines_of) = true)
  (a_read_prices : PySem.W.nsIn K mainGlobals "read_prices" = some (some (.ref f_read_prices)))
  (l_read_prices : K.lookup f_read_prices = some ⟨oc_read_prices, od_read_prices, .func (PySem.W.fnOf "read_prices" "read_prices" (defArgs s_read_prices) (defBody s_read_prices) (defScope s_read_prices) .none kV_read_prices dc_read_prices pm_read_prices an_read_prices cd_read_prices ct_read_prices), sl_read_prices⟩)
  (c_read_prices : PySem.W.codeIn K cd_read_prices "read_prices" = true)
  (k_read_prices : PySem.W.keepIn K (.ref f_read_prices) = true)
  (a__law_holds : PySem.W.nsIn K mainGlobals "_law_holds" = some (some (.ref f__law_holds)))
  (l__law_holds : K.lookup f__law_holds = some ⟨oc__law_holds, od__law_holds, .func (PySem.W.fnOf "_law_holds" "_law_holds" (defArgs s__law_holds) (defBody s__law_holds) (defScope s__law_holds) .none kV__law_holds dc__law_holds pm__law_holds an__law_holds cd__law_holds ct__law_holds), sl__law_holds⟩)
  (c__law_holds : PySem.W.codeIn K cd__law_holds "_law_holds" = true)
  (k__law_holds : PySem.W.keepIn K (.ref f__law_holds) = true)
  (a__law_lowest : PySem.W.nsIn K mainGlobals "_law_lowest" = some (some (.ref f__law_lowest)))
  (l__law_lowest : K.lookup f__law_lowest = some ⟨oc__law_lowest, od__law_lowest, .func (PySem.W.fnOf "_law_lowest" "_law_lowest" (defArgs s__law_lowest) (defBody s__law_lowest) (defScope s__law_lowest) .none kV__law_lowest dc__law_lowest pm__law_lowest an__law_lowest cd__law_lowest ct__law_lowest), sl__law_lowest⟩)
  (c__law_lowest : PySem.W.codeIn K cd__law_lowest "_law_lowest" = true)
  (k__law_lowest : PySem.W.keepIn K (.ref f__law_lowest) = true)
  (a__law_pick : PySem.W.nsIn K mainGlobals "_law_pick" = some (some (.ref f__law_pick)))
  (l__law_pick : K.lookup f__law_pick = some ⟨oc__law_pick, od__law_pick, .func (PySem.W.fnOf "_law_pick" "_law_pick" (defArgs s__law_pick) (defBody s__law_pick) (defScope s__law_pick) .none kV__law_pick dc__law_pick pm__law_pick an__law_pick cd__law_pick ct__law_pick), sl__law_pick⟩)
  (c__law_pick : PySem.W.codeIn K cd__law_pick "_law_pick" = true)
  (k__law_pick : PySem.W.keepIn K (.ref f__law_pick) = true)
  (a__law_fraction : PySem.W.nsIn K mainGlobals "_law_fraction" = some (some (.ref f__law_fraction)))
  (l__law_fraction : K.lookup f__law_fraction = some ⟨oc__law_fraction, od__law_fraction, .func (PySem.W.fnOf "_law_fraction" "_law_fraction" (defArgs s__law_fraction) (defBody s__law_fraction) (defScope s__law_fraction) .none kV__law_fraction dc__law_fraction pm__law_fraction an__law_fraction cd__law_fraction ct__law_fraction), sl__law_fraction⟩)
  (c__law_fraction : PySem.W.codeIn K cd__law_fraction "_law_fraction" = true)
  (k__law_fraction : PySem.W.keepIn K (.ref f__law_fraction) = true)
  (a__law_all_stretches : PySem.W.nsIn K mainGlobals "_law_all_stretches" = some (some (.ref f__law_all_stretches)))
  (l__law_all_stretches : K.lookup f__law_all_stretches = some ⟨oc__law_all_stretches, od__law_all_stretches, .func (PySem.W.fnOf "_law_all_stretches" "_law_all_stretches" (defArgs s__law_all_stretches) (defBody s__law_all_stretches) (defScope s__law_all_stretches) .none kV__law_all_stretches dc__law_all_stretches pm__law_all_stretches an__law_all_stretches cd__law_all_stretches ct__law_all_stretches), sl__law_all_stretches⟩)
  (c__law_all_stretches : PySem.W.codeIn K cd__law_all_stretches "_law_all_stretches" = true)
  (k__law_all_stretches : PySem.W.keepIn K (.ref f__law_all_stretches) = true)
  (a__law_table : PySem.W.nsIn K mainGlobals "_law_table" = some (some (.ref f__law_table)))
  (l__law_table : K.lookup f__law_table = some ⟨oc__law_table, od__law_table, .func (PySem.W.fnOf "_law_table" "_law_table" (defArgs s__law_table) (defBody s__law_table) (defScope s__law_table) .none kV__law_table dc__law_table pm__law_table an__law_table cd__law_table ct__law_table), sl__law_table⟩)
  (c__law_table : PySem.W.codeIn K cd__law_table "_law_table" = true)
  (k__law_table : PySem.W.keepIn K (.ref f__law_table) = true)
  (a__law_rows : PySem.W.nsIn K mainGlobals "_law_rows" = some (some (.ref f__law_rows)))
  (l__law_rows : K.lookup f__law_rows = some ⟨oc__law_rows, od__law_rows, .func (PySem.W.fnOf "_law_rows" "_law_rows" (defArgs s__law_rows) (defBody s__law_rows) (defScope s__law_rows) .none kV__law_rows dc__law_rows pm__law_rows an__law_rows cd__law_rows ct__law_rows), sl__law_rows⟩)
  (c__law_rows : PySem.W.codeIn K cd__law_rows "_law_rows" = true)
  (k__law_rows : PySem.W.keepIn K (.ref f__law_rows) = true)
  (a__law_tape : PySem.W.nsIn K mainGlobals "_law_tape" = some (some (.ref f__law_tape)))
  (l__law_tape : K.lookup f__law_tape = some ⟨oc__law_tape, od__law_tape, .func (PySem.W.fnOf "_law_tape" "_law_tape" (defArgs s__law_tape) (defBody s__law_tape) (defScope s__law_tape) .none kV__law_tape dc__law_tape pm__law_tape an__law_tape cd__law_tape ct__law_tape), sl__law_tape⟩)
  (c__law_tape : PySem.W.codeIn K cd__law_tape "_law_tape" = true)
  (k__law_tape : PySem.W.keepIn K (.ref f__law_tape) = true)
  (a_law : PySem.W.nsIn K mainGlobals "law" = some (some (.ref f_law)))
  (l_law : K.lookup f_law = some ⟨oc_law, od_law, .func (PySem.W.fnOf "law" "law" (defArgs s_law) (defBody s_law) (defScope s_law) .none kV_law dc_law pm_law an_law cd_law ct_law), sl_law⟩)
  (c_law : PySem.W.codeIn K cd_law "law" = true)
  (k_law : PySem.W.keepIn K (.ref f_law) = true)
  (z_abs : PySem.W.nsIn K mainGlobals "abs" = some none)
  (z_all : PySem.W.nsIn K mainGlobals "all" = some none)
  (z_bool : PySem.W.nsIn K mainGlobals "bool" = some none)
  (z_dict : PySem.W.nsIn K mainGlobals "dict" = some none)
  (z_enumerate : PySem.W.nsIn K mainGlobals "enumerate" = some none)
  (z_int : PySem.W.nsIn K mainGlobals "int" = some none)
  (z_isinstance : PySem.W.nsIn K mainGlobals "isinstance" = some none)
  (z_len : PySem.W.nsIn K mainGlobals "len" = some none)
  (z_list : PySem.W.nsIn K mainGlobals "list" = some none)
  (z_range : PySem.W.nsIn K mainGlobals "range" = some none)
  (z_sorted : PySem.W.nsIn K mainGlobals "sorted" = some none)
  (z_str : PySem.W.nsIn K mainGlobals "str" = some none)
  (z_tuple : PySem.W.nsIn K mainGlobals "tuple" = some none)
  (v_FIGURES : PySem.W.nsIn K mainGlobals "FIGURES" = some (some (.str "0123456789" t_FIGURES_tok)))
  (v_MOST_PARTS : PySem.W.nsIn K mainGlobals "MOST_PARTS" = some (some (.int 60 t_MOST_PARTS_tok)))
  (v_MOST_ROWS : PySem.W.nsIn K mainGlobals "MOST_ROWS" = some (some (.int 4 t_MOST_ROWS_tok)))
  (v_MOST_WIDTH : PySem.W.nsIn K mainGlobals "MOST_WIDTH" = some (some (.int 3 t_MOST_WIDTH_tok)))
  (v_SMALL : PySem.W.nsIn K mainGlobals "SMALL" = some (some (.str "abcdefghijklmnopqrstuvwxyz" t_SMALL_tok))) :
  ∃ fd : FuncData, (∀ (s : Shared) (v : Value), BindsTo s fd ⟨[v], []⟩ [("_law_script", v)]) ∧ ∀ base : Heap, K.In base → base.Ns mainGlobals mg → FnOk l.prog w K mg base CX0 8 fa fd ["_law_script"] (spLaw K) := by
  have e := hfa.symm.trans (PySem.W.mg_of X G a_law)
  cases e
  have F_fraction_text := fun_mk (st := s_fraction_text) l_fraction_text c_fraction_text k_fraction_text
  have b_fraction_text := F_fraction_text.binds (ps := ["fraction"]) fun _ _ _ _ _ _ us hl => match us, hl with | [_], _ => rfl
  have F_Prices_table := fun_mk (st := s_Prices_table) l_Prices_table c_Prices_table k_Prices_table
  have b_Prices_table := F_Prices_table.binds (ps := ["self"]) fun _ _ _ _ _ _ us hl => match us, hl with | [_], _ => rfl
  have F_prices_text := fun_mk (st := s_prices_text) l_prices_text c_prices_text k_prices_text
  have b_prices_text := F_prices_text.binds (ps := ["prices"]) fun _ _ _ _ _ _ us hl => match us, hl with | [_], _ => rfl
  have F__law_fraction_text := fun_mk (st := s__law_fraction_text) l__law_fraction_text c__law_fraction_text k__law_fraction_text
  have b__law_fraction_text := F__law_fraction_text.binds (ps := ["_law_fraction_here"]) fun _ _ _ _ _ _ us hl => match us, hl with | [_], _ => rfl
  have F__law_prices_text := fun_mk (st := s__law_prices_text) l__law_prices_text c__law_prices_text k__law_prices_text
  have b__law_prices_text := F__law_prices_text.binds (ps := ["_law_rows_here", "_law_width", "_law_table_here"]) fun _ _ _ _ _ _ us hl => match us, hl with | [_, _, _], _ => rfl
  have F_Prices_eq := fun_mk (st := s_Prices_eq) l_Prices_eq c_Prices_eq k_Prices_eq
  have b_Prices_eq := F_Prices_eq.binds (ps := ["self", "other"]) fun _ _ _ _ _ _ us hl => match us, hl with | [_, _], _ => rfl
  have F__law_is := fun_mk (st := s__law_is) l__law_is c__law_is k__law_is
  have b__law_is := F__law_is.binds (ps := ["_law_told", "_law_due"]) fun _ _ _ _ _ _ us hl => match us, hl with | [_, _], _ => rfl
  have F_common_divisor := fun_mk (st := s_common_divisor) l_common_divisor c_common_divisor k_common_divisor
  have b_common_divisor := F_common_divisor.binds (ps := ["one", "other"]) fun _ _ _ _ _ _ us hl => match us, hl with | [_, _], _ => rfl
  have F_is_integer := fun_mk (st := s_is_integer) l_is_integer c_is_integer k_is_integer
  have b_is_integer := F_is_integer.binds (ps := ["thing"]) fun _ _ _ _ _ _ us hl => match us, hl with | [_], _ => rfl
  have F_is_pair := fun_mk (st := s_is_pair) l_is_pair c_is_pair k_is_pair
  have b_is_pair := F_is_pair.binds (ps := ["thing"]) fun _ _ _ _ _ _ us hl => match us, hl with | [_], _ => rfl
  have F_is_fraction := fun_mk (st := s_is_fraction) l_is_fraction c_is_fraction k_is_fraction
  have b_is_fraction := F_is_fraction.binds (ps := ["thing"]) fun _ _ _ _ _ _ us hl => match us, hl with | [_], _ => rfl
  have F_is_table := fun_mk (st := s_is_table) l_is_table c_is_table k_is_table
  have b_is_table := F_is_table.binds (ps := ["thing", "names"]) fun _ _ _ _ _ _ us hl => match us, hl with | [_, _], _ => rfl
  have F_codes_of_length := fun_mk (st := s_codes_of_length) l_codes_of_length c_codes_of_length k_codes_of_length
  have b_codes_of_length := F_codes_of_length.binds (ps := ["rows", "length"]) fun _ _ _ _ _ _ us hl => match us, hl with | [_, _], _ => rfl
  have F_stretch_names := fun_mk (st := s_stretch_names) l_stretch_names c_stretch_names k_stretch_names
  have b_stretch_names := F_stretch_names.binds (ps := ["rows", "width"]) fun _ _ _ _ _ _ us hl => match us, hl with | [_, _], _ => rfl
  have F_is_within := fun_mk (st := s_is_within) l_is_within c_is_within k_is_within
  have b_is_within := F_is_within.binds (ps := ["thing", "least", "most"]) fun _ _ _ _ _ _ us hl => match us, hl with | [_, _, _], _ => rfl
  have F_is_width := fun_mk (st := s_is_width) l_is_width c_is_width k_is_width
  have b_is_width := F_is_width.binds (ps := ["thing"]) fun _ _ _ _ _ _ us hl => match us, hl with | [_], _ => rfl
  have F_is_ascending := fun_mk (st := s_is_ascending) l_is_ascending c_is_ascending k_is_ascending
  have b_is_ascending := F_is_ascending.binds (ps := ["word"]) fun _ _ _ _ _ _ us hl => match us, hl with | [_], _ => rfl
  have F_is_string_of := fun_mk (st := s_is_string_of) l_is_string_of c_is_string_of k_is_string_of
  have b_is_string_of := F_is_string_of.binds (ps := ["thing", "signs"]) fun _ _ _ _ _ _ us hl => match us, hl with | [_, _], _ => rfl
  have F_is_word := fun_mk (st := s_is_word) l_is_word c_is_word k_is_word
  have b_is_word := F_is_word.binds (ps := ["thing"]) fun _ _ _ _ _ _ us hl => match us, hl with | [_], _ => rfl
  have F_is_rows := fun_mk (st := s_is_rows) l_is_rows c_is_rows k_is_rows
  have b_is_rows := F_is_rows.binds (ps := ["thing"]) fun _ _ _ _ _ _ us hl => match us, hl with | [_], _ => rfl
  have F_Prices_init := fun_mk (st := s_Prices_init) l_Prices_init c_Prices_init k_Prices_init
  have b_Prices_init := F_Prices_init.binds (ps := ["self", "rows", "width", "table"]) fun _ _ _ _ _ _ us hl => match us, hl with | [_, _, _, _], _ => rfl
  have F_is_stretch := fun_mk (st := s_is_stretch) l_is_stretch c_is_stretch k_is_stretch
  have b_is_stretch := F_is_stretch.binds (ps := ["word"]) fun _ _ _ _ _ _ us hl => match us, hl with | [_], _ => rfl
  have F_number_of := fun_mk (st := s_number_of) l_number_of c_number_of k_number_of
  have b_number_of := F_number_of.binds (ps := ["word", "figures"]) fun _ _ _ _ _ _ us hl => match us, hl with | [_, _], _ => rfl
  have F_fraction_of := fun_mk (st := s_fraction_of) l_fraction_of c_fraction_of k_fraction_of
  have b_fraction_of := F_fraction_of.binds (ps := ["word"]) fun _ _ _ _ _ _ us hl => match us, hl with | [_], _ => rfl
  have F_head_of := fun_mk (st := s_head_of) l_head_of c_head_of k_head_of
  have b_head_of := F_head_of.binds (ps := ["line", "word", "figures"]) fun _ _ _ _ _ _ us hl => match us, hl with | [_, _, _], _ => rfl
  have F_lines_of := fun_mk (st := s_lines_of) l_lines_of c_lines_of k_lines_of
  have b_lines_of := F_lines_of.binds (ps := ["text"]) fun _ _ _ _ _ _ us hl => match us, hl with | [_], _ => rfl
  have F_read_prices := fun_mk (st := s_read_prices) l_read_prices c_read_prices k_read_prices
  have b_read_prices := F_read_prices.binds (ps := ["text"]) fun _ _ _ _ _ _ us hl => match us, hl with | [_], _ => rfl
  have F__law_holds := fun_mk (st := s__law_holds) l__law_holds c__law_holds k__law_holds
  have b__law_holds := F__law_holds.binds (ps := ["_law_rows_here", "_law_width", "_law_table_here", "_law_prices"]) fun _ _ _ _ _ _ us hl => match us, hl with | [_, _, _, _], _ => rfl
  have F__law_lowest := fun_mk (st := s__law_lowest) l__law_lowest c__law_lowest k__law_lowest
  have b__law_lowest := F__law_lowest.binds (ps := ["_law_top", "_law_bottom"]) fun _ _ _ _ _ _ us hl => match us, hl with | [_, _], _ => rfl
  have F__law_pick := fun_mk (st := s__law_pick) l__law_pick c__law_pick k__law_pick
  have b__law_pick := F__law_pick.binds (ps := ["_law_tape_here", "_law_size"]) fun _ _ _ _ _ _ us hl => match us, hl with | [_, _], _ => rfl
  have F__law_fraction := fun_mk (st := s__law_fraction) l__law_fraction c__law_fraction k__law_fraction
  have b__law_fraction := F__law_fraction.binds (ps := ["_law_tape_here"]) fun _ _ _ _ _ _ us hl => match us, hl with | [_], _ => rfl
  have F__law_all_stretches := fun_mk (st := s__law_all_stretches) l__law_all_stretches c__law_all_stretches k__law_all_stretches
  have b__law_all_stretches := F__law_all_stretches.binds (ps := ["_law_rows_here", "_law_width"]) fun _ _ _ _ _ _ us hl => match us, hl with | [_, _], _ => rfl
  have F__law_table := fun_mk (st := s__law_table) l__law_table c__law_table k__law_table
  have b__law_table := F__law_table.binds (ps := ["_law_tape_here", "_law_rows_here", "_law_width"]) fun _ _ _ _ _ _ us hl => match us, hl with | [_, _, _], _ => rfl
  have F__law_rows := fun_mk (st := s__law_rows) l__law_rows c__law_rows k__law_rows
  have b__law_rows := F__law_rows.binds (ps := ["_law_tape_here", "_law_most"]) fun _ _ _ _ _ _ us hl => match us, hl with | [_, _], _ => rfl
  have F__law_tape := fun_mk (st := s__law_tape) l__law_tape c__law_tape k__law_tape
  have b__law_tape := F__law_tape.binds (ps := ["_law_script"]) fun _ _ _ _ _ _ us hl => match us, hl with | [_], _ => rfl
  have F_law := fun_mk (st := s_law) l_law c_law k_law
  have b_law := F_law.binds (ps := ["_law_script"]) fun _ _ _ _ _ _ us hl => match us, hl with | [_], _ => rfl
  let W : Wd := ⟨K, fun _ => C_Prices, true⟩
  let A : Ad := ⟨f_fraction_text, (PySem.W.fnOf "fraction_text" "fraction_text" (defArgs s_fraction_text) (defBody s_fraction_text) (defScope s_fraction_text) .none kV_fraction_text dc_fraction_text pm_fraction_text an_fraction_text cd_fraction_text ct_fraction_text), f_Prices_table, (PySem.W.fnOf "table" "Prices.table" (defArgs s_Prices_table) (defBody s_Prices_table) (defScope s_Prices_table) .none kV_Prices_table dc_Prices_table pm_Prices_table an_Prices_table cd_Prices_table ct_Prices_table), f_prices_text, (PySem.W.fnOf "prices_text" "prices_text" (defArgs s_prices_text) (defBody s_prices_text) (defScope s_prices_text) .none kV_prices_text dc_prices_text pm_prices_text an_prices_text cd_prices_text ct_prices_text), f__law_fraction_text, (PySem.W.fnOf "_law_fraction_text" "_law_fraction_text" (defArgs s__law_fraction_text) (defBody s__law_fraction_text) (defScope s__law_fraction_text) .none kV__law_fraction_text dc__law_fraction_text pm__law_fraction_text an__law_fraction_text cd__law_fraction_text ct__law_fraction_text), f__law_prices_text, (PySem.W.fnOf "_law_prices_text" "_law_prices_text" (defArgs s__law_prices_text) (defBody s__law_prices_text) (defScope s__law_prices_text) .none kV__law_prices_text dc__law_prices_text pm__law_prices_text an__law_prices_text cd__law_prices_text ct__law_prices_text), f_Prices_eq, (PySem.W.fnOf "__eq__" "Prices.__eq__" (defArgs s_Prices_eq) (defBody s_Prices_eq) (defScope s_Prices_eq) .none kV_Prices_eq dc_Prices_eq pm_Prices_eq an_Prices_eq cd_Prices_eq ct_Prices_eq), f__law_is, (PySem.W.fnOf "_law_is" "_law_is" (defArgs s__law_is) (defBody s__law_is) (defScope s__law_is) .none kV__law_is dc__law_is pm__law_is an__law_is cd__law_is ct__law_is), f_common_divisor, (PySem.W.fnOf "common_divisor" "common_divisor" (defArgs s_common_divisor) (defBody s_common_divisor) (defScope s_common_divisor) .none kV_common_divisor dc_common_divisor pm_common_divisor an_common_divisor cd_common_divisor ct_common_divisor), f_is_integer, (PySem.W.fnOf "is_integer" "is_integer" (defArgs s_is_integer) (defBody s_is_integer) (defScope s_is_integer) .none kV_is_integer dc_is_integer pm_is_integer an_is_integer cd_is_integer ct_is_integer), f_is_pair, (PySem.W.fnOf "is_pair" "is_pair" (defArgs s_is_pair) (defBody s_is_pair) (defScope s_is_pair) .none kV_is_pair dc_is_pair pm_is_pair an_is_pair cd_is_pair ct_is_pair), f_is_fraction, (PySem.W.fnOf "is_fraction" "is_fraction" (defArgs s_is_fraction) (defBody s_is_fraction) (defScope s_is_fraction) .none kV_is_fraction dc_is_fraction pm_is_fraction an_is_fraction cd_is_fraction ct_is_fraction), f_is_table, (PySem.W.fnOf "is_table" "is_table" (defArgs s_is_table) (defBody s_is_table) (defScope s_is_table) .none kV_is_table dc_is_table pm_is_table an_is_table cd_is_table ct_is_table), f_codes_of_length, (PySem.W.fnOf "codes_of_length" "codes_of_length" (defArgs s_codes_of_length) (defBody s_codes_of_length) (defScope s_codes_of_length) .none kV_codes_of_length dc_codes_of_length pm_codes_of_length an_codes_of_length cd_codes_of_length ct_codes_of_length), f_stretch_names, (PySem.W.fnOf "stretch_names" "stretch_names" (defArgs s_stretch_names) (defBody s_stretch_names) (defScope s_stretch_names) .none kV_stretch_names dc_stretch_names pm_stretch_names an_stretch_names cd_stretch_names ct_stretch_names), f_is_within, (PySem.W.fnOf "is_within" "is_within" (defArgs s_is_within) (defBody s_is_within) (defScope s_is_within) .none kV_is_within dc_is_within pm_is_within an_is_within cd_is_within ct_is_within), f_is_width, (PySem.W.fnOf "is_width" "is_width" (defArgs s_is_width) (defBody s_is_width) (defScope s_is_width) .none kV_is_width dc_is_width pm_is_width an_is_width cd_is_width ct_is_width), f_is_ascending, (PySem.W.fnOf "is_ascending" "is_ascending" (defArgs s_is_ascending) (defBody s_is_ascending) (defScope s_is_ascending) .none kV_is_ascending dc_is_ascending pm_is_ascending an_is_ascending cd_is_ascending ct_is_ascending), f_is_string_of, (PySem.W.fnOf "is_string_of" "is_string_of" (defArgs s_is_string_of) (defBody s_is_string_of) (defScope s_is_string_of) .none kV_is_string_of dc_is_string_of pm_is_string_of an_is_string_of cd_is_string_of ct_is_string_of), f_is_word, (PySem.W.fnOf "is_word" "is_word" (defArgs s_is_word) (defBody s_is_word) (defScope s_is_word) .none kV_is_word dc_is_word pm_is_word an_is_word cd_is_word ct_is_word), f_is_rows, (PySem.W.fnOf "is_rows" "is_rows" (defArgs s_is_rows) (defBody s_is_rows) (defScope s_is_rows) .none kV_is_rows dc_is_rows pm_is_rows an_is_rows cd_is_rows ct_is_rows), f_Prices_init, (PySem.W.fnOf "__init__" "Prices.__init__" (defArgs s_Prices_init) (defBody s_Prices_init) (defScope s_Prices_init) .none kV_Prices_init dc_Prices_init pm_Prices_init an_Prices_init cd_Prices_init ct_Prices_init), f_is_stretch, (PySem.W.fnOf "is_stretch" "is_stretch" (defArgs s_is_stretch) (defBody s_is_stretch) (defScope s_is_stretch) .none kV_is_stretch dc_is_stretch pm_is_stretch an_is_stretch cd_is_stretch ct_is_stretch), f_number_of, (PySem.W.fnOf "number_of" "number_of" (defArgs s_number_of) (defBody s_number_of) (defScope s_number_of) .none kV_number_of dc_number_of pm_number_of an_number_of cd_number_of ct_number_of), f_fraction_of, (PySem.W.fnOf "fraction_of" "fraction_of" (defArgs s_fraction_of) (defBody s_fraction_of) (defScope s_fraction_of) .none kV_fraction_of dc_fraction_of pm_fraction_of an_fraction_of cd_fraction_of ct_fraction_of), f_head_of, (PySem.W.fnOf "head_of" "head_of" (defArgs s_head_of) (defBody s_head_of) (defScope s_head_of) .none kV_head_of dc_head_of pm_head_of an_head_of cd_head_of ct_head_of), f_lines_of, (PySem.W.fnOf "lines_of" "lines_of" (defArgs s_lines_of) (defBody s_lines_of) (defScope s_lines_of) .none kV_lines_of dc_lines_of pm_lines_of an_lines_of cd_lines_of ct_lines_of), f_read_prices, (PySem.W.fnOf "read_prices" "read_prices" (defArgs s_read_prices) (defBody s_read_prices) (defScope s_read_prices) .none kV_read_prices dc_read_prices pm_read_prices an_read_prices cd_read_prices ct_read_prices), f__law_holds, (PySem.W.fnOf "_law_holds" "_law_holds" (defArgs s__law_holds) (defBody s__law_holds) (defScope s__law_holds) .none kV__law_holds dc__law_holds pm__law_holds an__law_holds cd__law_holds ct__law_holds), f__law_lowest, (PySem.W.fnOf "_law_lowest" "_law_lowest" (defArgs s__law_lowest) (defBody s__law_lowest) (defScope s__law_lowest) .none kV__law_lowest dc__law_lowest pm__law_lowest an__law_lowest cd__law_lowest ct__law_lowest), f__law_pick, (PySem.W.fnOf "_law_pick" "_law_pick" (defArgs s__law_pick) (defBody s__law_pick) (defScope s__law_pick) .none kV__law_pick dc__law_pick pm__law_pick an__law_pick cd__law_pick ct__law_pick), f__law_fraction, (PySem.W.fnOf "_law_fraction" "_law_fraction" (defArgs s__law_fraction) (defBody s__law_fraction) (defScope s__law_fraction) .none kV__law_fraction dc__law_fraction pm__law_fraction an__law_fraction cd__law_fraction ct__law_fraction), f__law_all_stretches, (PySem.W.fnOf "_law_all_stretches" "_law_all_stretches" (defArgs s__law_all_stretches) (defBody s__law_all_stretches) (defScope s__law_all_stretches) .none kV__law_all_stretches dc__law_all_stretches pm__law_all_stretches an__law_all_stretches cd__law_all_stretches ct__law_all_stretches), f__law_table, (PySem.W.fnOf "_law_table" "_law_table" (defArgs s__law_table) (defBody s__law_table) (defScope s__law_table) .none kV__law_table dc__law_table pm__law_table an__law_table cd__law_table ct__law_table), f__law_rows, (PySem.W.fnOf "_law_rows" "_law_rows" (defArgs s__law_rows) (defBody s__law_rows) (defScope s__law_rows) .none kV__law_rows dc__law_rows pm__law_rows an__law_rows cd__law_rows ct__law_rows), f__law_tape, (PySem.W.fnOf "_law_tape" "_law_tape" (defArgs s__law_tape) (defBody s__law_tape) (defScope s__law_tape) .none kV__law_tape dc__law_tape pm__law_tape an__law_tape cd__law_tape ct__law_tape), fa, (PySem.W.fnOf "law" "law" (defArgs s_law) (defBody s_law) (defScope s_law) .none kV_law dc_law pm_law an_law cd_law ct_law), p_Prices_table⟩
  have T : Tx W mg A := ⟨(fun _ => rfl),
    F_fraction_text,
    b_fraction_text,
    PySem.W.mg_of X G a_fraction_text,
    F_Prices_table,
    b_Prices_table,
    F_prices_text,
    b_prices_text,
    PySem.W.mg_of X G a_prices_text,
    F__law_fraction_text,
    b__law_fraction_text,
    PySem.W.mg_of X G a__law_fraction_text,
    F__law_prices_text,
    b__law_prices_text,
    PySem.W.mg_of X G a__law_prices_text,
    F_Prices_eq,
    b_Prices_eq,
    F__law_is,
    b__law_is,
    PySem.W.mg_of X G a__law_is,
    F_common_divisor,
    b_common_divisor,
    PySem.W.mg_of X G a_common_divisor,
    F_is_integer,
    b_is_integer,
    PySem.W.mg_of X G a_is_integer,
    F_is_pair,
    b_is_pair,
    PySem.W.mg_of X G a_is_pair,
    F_is_fraction,
    b_is_fraction,
    PySem.W.mg_of X G a_is_fraction,
    F_is_table,
    b_is_table,
    PySem.W.mg_of X G a_is_table,
    F_codes_of_length,
    b_codes_of_length,
    PySem.W.mg_of X G a_codes_of_length,
    F_stretch_names,
    b_stretch_names,
    PySem.W.mg_of X G a_stretch_names,
    F_is_within,
    b_is_within,
    PySem.W.mg_of X G a_is_within,
    F_is_width,
    b_is_width,
    PySem.W.mg_of X G a_is_width,
    F_is_ascending,
    b_is_ascending,
    PySem.W.mg_of X G a_is_ascending,
    F_is_string_of,
    b_is_string_of,
    PySem.W.mg_of X G a_is_string_of,
    F_is_word,
    b_is_word,
    PySem.W.mg_of X G a_is_word,
    F_is_rows,
    b_is_rows,
    PySem.W.mg_of X G a_is_rows,
    F_Prices_init,
    b_Prices_init,
    F_is_stretch,
    b_is_stretch,
    PySem.W.mg_of X G a_is_stretch,
    F_number_of,
    b_number_of,
    PySem.W.mg_of X G a_number_of,
    F_fraction_of,
    b_fraction_of,
    PySem.W.mg_of X G a_fraction_of,
    F_head_of,
    b_head_of,
    PySem.W.mg_of X G a_head_of,
    F_lines_of,
    b_lines_of,
    PySem.W.mg_of X G a_lines_of,
    F_read_prices,
    b_read_prices,
    PySem.W.mg_of X G a_read_prices,
    F__law_holds,
    b__law_holds,
    PySem.W.mg_of X G a__law_holds,
    F__law_lowest,
    b__law_lowest,
    PySem.W.mg_of X G a__law_lowest,
    F__law_pick,
    b__law_pick,
    PySem.W.mg_of X G a__law_pick,
    F__law_fraction,
    b__law_fraction,
    PySem.W.mg_of X G a__law_fraction,
    F__law_all_stretches,
    b__law_all_stretches,
    PySem.W.mg_of X G a__law_all_stretches,
    F__law_table,
    b__law_table,
    PySem.W.mg_of X G a__law_table,
    F__law_rows,
    b__law_rows,
    PySem.W.mg_of X G a__law_rows,
    F__law_tape,
    b__law_tape,
    PySem.W.mg_of X G a__law_tape,
    F_law,
    b_law,
    PySem.W.mg_of X G a_law,
    PySem.W.mg_of X G aC_Prices,
    ⟨pg_Prices, hd_Prices, po_Prices, sa_Prices⟩,
    ⟨mk_Prices, a_Prices_init, i_Prices_init, kc_Prices⟩,
    ⟨⟨pg_Prices, hd_Prices, po_Prices, sa_Prices⟩, ia_Prices, in_Prices, it_Prices, im_Prices⟩,
    a_Prices_eq,
    i_Prices_eq,
    no_Prices_rows,
    no_Prices_width,
    no_Prices_kept_table,
    ⟨p1_Prices_table, p2_Prices_table, p3_Prices_table, ⟨_, p4_Prices_table⟩⟩,
    PySem.W.mg_none_of X G z_abs,
    PySem.W.mg_none_of X G z_all,
    PySem.W.mg_none_of X G z_bool,
    PySem.W.mg_none_of X G z_dict,
    PySem.W.mg_none_of X G z_enumerate,
    PySem.W.mg_none_of X G z_int,
    PySem.W.mg_none_of X G z_isinstance,
    PySem.W.mg_none_of X G z_len,
    PySem.W.mg_none_of X G z_list,
    PySem.W.mg_none_of X G z_range,
    PySem.W.mg_none_of X G z_sorted,
    PySem.W.mg_none_of X G z_str,
    PySem.W.mg_none_of X G z_tuple,
    ⟨_, PySem.W.mg_of X G v_FIGURES⟩,
    ⟨_, PySem.W.mg_of X G v_MOST_PARTS⟩,
    ⟨_, PySem.W.mg_of X G v_MOST_ROWS⟩,
    ⟨_, PySem.W.mg_of X G v_MOST_WIDTH⟩,
    ⟨_, PySem.W.mg_of X G v_SMALL⟩⟩
  exact ⟨(PySem.W.fnOf "law" "law" (defArgs s_law) (defBody s_law) (defScope s_law) .none kV_law dc_law pm_law an_law cd_law ct_law), fun s v => .of_eq rfl, fun base _ _ => (ok_law (W := W) (A := A) T).imp (sp_law (W := W))⟩
end K86
open PySem PySem.W PyProof.Rows
set_option maxRecDepth 100000 in
set_option maxHeartbeats 0 in
theorem PySem.Challenge.cw_stretchprices_k86_whole_texts_of_prices_holds : PySem.Challenge.rw_stretchprices_k86_whole_texts_of_prices.Holds := by
  w_on; o_law; k_head; (case hw => w_witness2)
  k_fill
  refine L2.walk_of (l := PySem.Challenge.rw_stretchprices_k86_whole_texts_of_prices) (n := 63) (k := 8) (x := "_law_script") (CX := fun _ => L2.CX0) (sp := fun w => K86.spLaw _) rfl (by decide) rfl ⟨rfl, by decide, by decide⟩ (fun w h Y => PySem.W.kIn_of Y) ?F (fun _ _ a ns hl _ hS => ⟨a, ns, rfl, hS, hl, fun _ => rfl⟩) (fun _ _ _ _ _ h => h)
  case F =>
    intro w mg fa h KX G hmg
    refine' K86.all_mk KX G hmg ?aC_Prices ?pg_Prices ?hd_Prices ?po_Prices ?sa_Prices ?mk_Prices ?kc_Prices ?ia_Prices ?in_Prices ?it_Prices ?im_Prices ?no_Prices_rows ?no_Prices_width ?no_Prices_kept_table ?p1_Prices_table ?p2_Prices_table ?p3_Prices_table ?p4_Prices_table ?a_fraction_text ?l_fraction_text ?c_fraction_text ?k_fraction_text ?l_Prices_table ?c_Prices_table ?k_Prices_table ?a_prices_text ?l_prices_text ?c_prices_text ?k_prices_text ?a__law_fraction_text ?l__law_fraction_text ?c__law_fraction_text ?k__law_fraction_text ?a__law_prices_text ?l__law_prices_text ?c__law_prices_text ?k__law_prices_text ?a_Prices_eq ?i_Prices_eq ?l_Prices_eq ?c_Prices_eq ?k_Prices_eq ?a__law_is ?l__law_is ?c__law_is ?k__law_is ?a_common_divisor ?l_common_divisor ?c_common_divisor ?k_common_divisor ?a_is_integer ?l_is_integer ?c_is_integer ?k_is_integer ?a_is_pair ?l_is_pair ?c_is_pair ?k_is_pair ?a_is_fraction ?l_is_fraction ?c_is_fraction ?k_is_fraction ?a_is_table ?l_is_table ?c_is_table ?k_is_table ?a_codes_of_length ?l_codes_of_length ?c_codes_of_length ?k_codes_of_length ?a_stretch_names ?l_stretch_names ?c_stretch_names ?k_stretch_names ?a_is_within ?l_is_within ?c_is_within ?k_is_within ?a_is_width ?l_is_width ?c_is_width ?k_is_width ?a_is_ascending ?l_is_ascending ?c_is_ascending ?k_is_ascending ?a_is_string_of ?l_is_string_of ?c_is_string_of ?k_is_string_of ?a_is_word ?l_is_word ?c_is_word ?k_is_word ?a_is_rows ?l_is_rows ?c_is_rows ?k_is_rows ?a_Prices_init ?i_Prices_init ?l_Prices_init ?c_Prices_init ?k_Prices_init ?a_is_stretch ?l_is_stretch ?c_is_stretch ?k_is_stretch ?a_number_of ?l_number_of ?c_number_of ?k_number_of ?a_fraction_of ?l_fraction_of ?c_fraction_of ?k_fraction_of ?a_head_of ?l_head_of ?c_head_of ?k_head_of ?a_lines_of ?l_lines_of ?c_lines_of ?k_lines_of ?a_read_prices ?l_read_prices ?c_read_prices ?k_read_prices ?a__law_holds ?l__law_holds ?c__law_holds ?k__law_holds ?a__law_lowest ?l__law_lowest ?c__law_lowest ?k__law_lowest ?a__law_pick ?l__law_pick ?c__law_pick ?k__law_pick ?a__law_fraction ?l__law_fraction ?c__law_fraction ?k__law_fraction ?a__law_all_stretches ?l__law_all_stretches ?c__law_all_stretches ?k__law_all_stretches ?a__law_table ?l__law_table ?c__law_table ?k__law_table ?a__law_rows ?l__law_rows ?c__law_rows ?k__law_rows ?a__law_tape ?l__law_tape ?c__law_tape ?k__law_tape ?a_law ?l_law ?c_law ?k_law ?z_abs ?z_all ?z_bool ?z_dict ?z_enumerate ?z_int ?z_isinstance ?z_len ?z_list ?z_range ?z_sorted ?z_str ?z_tuple ?v_FIGURES ?v_MOST_PARTS ?v_MOST_ROWS ?v_MOST_WIDTH ?v_SMALL
    (case aC_Prices => k_is)
    (case pg_Prices => k_is)
    (case hd_Prices => k_is)
    (case po_Prices => k_is)
    (case sa_Prices => k_is)
    (case mk_Prices => k_is)
    (case kc_Prices => k_is)
    (case ia_Prices => k_is)
    (case in_Prices => k_is)
    (case it_Prices => k_is)
    (case im_Prices => k_is)
    (case no_Prices_rows => k_is)
    (case no_Prices_width => k_is)
    (case no_Prices_kept_table => k_is)
    (case p1_Prices_table => k_is)
    (case p2_Prices_table => k_is)
    (case p3_Prices_table => k_is)
    (case p4_Prices_table => k_is)
    (case a_fraction_text => k_is)
    (case l_fraction_text => k_is)
    (case c_fraction_text => k_is)
    (case k_fraction_text => k_is)
    (case l_Prices_table => k_is)
    (case c_Prices_table => k_is)
    (case k_Prices_table => k_is)
    (case a_prices_text => k_is)
    (case l_prices_text => k_is)
    (case c_prices_text => k_is)
    (case k_prices_text => k_is)
    (case a__law_fraction_text => k_is)
    (case l__law_fraction_text => k_is)
    (case c__law_fraction_text => k_is)
    (case k__law_fraction_text => k_is)
    (case a__law_prices_text => k_is)
    (case l__law_prices_text => k_is)
    (case c__law_prices_text => k_is)
    (case k__law_prices_text => k_is)
    (case a_Prices_eq => k_is)
    (case i_Prices_eq => k_is)
    (case l_Prices_eq => k_is)
    (case c_Prices_eq => k_is)
    (case k_Prices_eq => k_is)
    (case a__law_is => k_is)
    (case l__law_is => k_is)
    (case c__law_is => k_is)
    (case k__law_is => k_is)
    (case a_common_divisor => k_is)
    (case l_common_divisor => k_is)
    (case c_common_divisor => k_is)
    (case k_common_divisor => k_is)
    (case a_is_integer => k_is)
    (case l_is_integer => k_is)
    (case c_is_integer => k_is)
    (case k_is_integer => k_is)
    (case a_is_pair => k_is)
    (case l_is_pair => k_is)
    (case c_is_pair => k_is)
    (case k_is_pair => k_is)
    (case a_is_fraction => k_is)
    (case l_is_fraction => k_is)
    (case c_is_fraction => k_is)
    (case k_is_fraction => k_is)
    (case a_is_table => k_is)
    (case l_is_table => k_is)
    (case c_is_table => k_is)
    (case k_is_table => k_is)
    (case a_codes_of_length => k_is)
    (case l_codes_of_length => k_is)
    (case c_codes_of_length => k_is)
    (case k_codes_of_length => k_is)
    (case a_stretch_names => k_is)
    (case l_stretch_names => k_is)
    (case c_stretch_names => k_is)
    (case k_stretch_names => k_is)
    (case a_is_within => k_is)
    (case l_is_within => k_is)
    (case c_is_within => k_is)
    (case k_is_within => k_is)
    (case a_is_width => k_is)
    (case l_is_width => k_is)
    (case c_is_width => k_is)
    (case k_is_width => k_is)
    (case a_is_ascending => k_is)
    (case l_is_ascending => k_is)
    (case c_is_ascending => k_is)
    (case k_is_ascending => k_is)
    (case a_is_string_of => k_is)
    (case l_is_string_of => k_is)
    (case c_is_string_of => k_is)
    (case k_is_string_of => k_is)
    (case a_is_word => k_is)
    (case l_is_word => k_is)
    (case c_is_word => k_is)
    (case k_is_word => k_is)
    (case a_is_rows => k_is)
    (case l_is_rows => k_is)
    (case c_is_rows => k_is)
    (case k_is_rows => k_is)
    (case a_Prices_init => k_is)
    (case i_Prices_init => k_is)
    (case l_Prices_init => k_is)
    (case c_Prices_init => k_is)
    (case k_Prices_init => k_is)
    (case a_is_stretch => k_is)
    (case l_is_stretch => k_is)
    (case c_is_stretch => k_is)
    (case k_is_stretch => k_is)
    (case a_number_of => k_is)
    (case l_number_of => k_is)
    (case c_number_of => k_is)
    (case k_number_of => k_is)
    (case a_fraction_of => k_is)
    (case l_fraction_of => k_is)
    (case c_fraction_of => k_is)
    (case k_fraction_of => k_is)
    (case a_head_of => k_is)
    (case l_head_of => k_is)
    (case c_head_of => k_is)
    (case k_head_of => k_is)
    (case a_lines_of => k_is)
    (case l_lines_of => k_is)
    (case c_lines_of => k_is)
    (case k_lines_of => k_is)
    (case a_read_prices => k_is)
    (case l_read_prices => k_is)
    (case c_read_prices => k_is)
    (case k_read_prices => k_is)
    (case a__law_holds => k_is)
    (case l__law_holds => k_is)
    (case c__law_holds => k_is)
    (case k__law_holds => k_is)
    (case a__law_lowest => k_is)
    (case l__law_lowest => k_is)
    (case c__law_lowest => k_is)
    (case k__law_lowest => k_is)
    (case a__law_pick => k_is)
    (case l__law_pick => k_is)
    (case c__law_pick => k_is)
    (case k__law_pick => k_is)
    (case a__law_fraction => k_is)
    (case l__law_fraction => k_is)
    (case c__law_fraction => k_is)
    (case k__law_fraction => k_is)
    (case a__law_all_stretches => k_is)
    (case l__law_all_stretches => k_is)
    (case c__law_all_stretches => k_is)
    (case k__law_all_stretches => k_is)
    (case a__law_table => k_is)
    (case l__law_table => k_is)
    (case c__law_table => k_is)
    (case k__law_table => k_is)
    (case a__law_rows => k_is)
    (case l__law_rows => k_is)
    (case c__law_rows => k_is)
    (case k__law_rows => k_is)
    (case a__law_tape => k_is)
    (case l__law_tape => k_is)
    (case c__law_tape => k_is)
    (case k__law_tape => k_is)
    (case a_law => k_is)
    (case l_law => k_is)
    (case c_law => k_is)
    (case k_law => k_is)
    (case z_abs => k_is)
    (case z_all => k_is)
    (case z_bool => k_is)
    (case z_dict => k_is)
    (case z_enumerate => k_is)
    (case z_int => k_is)
    (case z_isinstance => k_is)
    (case z_len => k_is)
    (case z_list => k_is)
    (case z_range => k_is)
    (case z_sorted => k_is)
    (case z_str => k_is)
    (case z_tuple => k_is)
    (case v_FIGURES => k_is)
    (case v_MOST_PARTS => k_is)
    (case v_MOST_ROWS => k_is)
    (case v_MOST_WIDTH => k_is)
    (case v_SMALL => k_is)
