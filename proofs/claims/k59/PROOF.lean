import PyProof.Rows.All
import HandS.Comp
import HandS.Conv
import HandS.Defaults
import HandS.Dict
import HandS.ForExc
import HandS.Head0
import HandS.Head1
import HandS.Head2
import HandS.HeadEnd
import HandS.HeadHook1
import HandS.HeadHook2
import HandS.IsInst
import HandS.Iter
import HandS.More
import HandS.RaiseMore
import HandS.SortInts
import HandS.Star
import HandS.Style
import HandS.TupAny
import HandS.TupLe
import HandS.Walk
import HandS.Wide
import HandS.Zip
import KE.GoesEnum
import KE.GoesMore
import KE.GoesZip
import KE.KDictZip
import KE.KStateDown
import OpenK.AllK
import PyProof.ReprRoads
import Wide.All
import Wide.FinOn
import PySem.Challenge.RW_readintime_k59_whole_waiting_lines
set_option Elab.async false
set_option linter.all false
set_option maxRecDepth 100000
set_option maxHeartbeats 0
namespace RT
open PySem PySem.Spec PyProof.Rows L2
abbrev St := L2.St
inductive D where
  | non | bl (b : Bool) | int (i : Int) | str (x : Str) | tup (xs : List D) | lst (xs : List D)
inductive Rs (α : Type) where
  | ok (a : α) | exc (c : Str) (x : D) | bad
def Rs.bind {α β : Type} : Rs α → (α → Rs β) → Rs β
  | .ok a, f => f a
  | .exc c x, _ => .exc c x
  | .bad, _ => .bad
@[simp] theorem Rs.ok_bind {α β : Type} (a : α) (f : α → Rs β) : (Rs.ok a).bind f = f a := rfl
@[simp] theorem Rs.exc_bind {α β : Type} (c : Str) (x : D) (f : α → Rs β) : (Rs.exc c x : Rs α).bind f = .exc c x := rfl
@[simp] theorem Rs.bad_bind {α β : Type} (f : α → Rs β) : (Rs.bad : Rs α).bind f = .bad := rfl
def Wr {α : Type} (r : Rs α) (k : α → Prop) (e : Str → D → Prop) : Prop := match r with
  | .ok a => k a
  | .exc c x => e c x
  | .bad => False
theorem Wr.mono {α : Type} {r : Rs α} {k k' : α → Prop} {e e' : Str → D → Prop} (h : Wr r k e) (hk : ∀ a, k a → k' a) (he : ∀ c x, e c x → e' c x) : Wr r k' e' := by
  cases r with
  | ok a => exact hk a h
  | exc c x => exact he c x h
  | bad => exact h
theorem Wr.bind {α β : Type} {r : Rs α} {f : α → Rs β} {k : β → Prop} {e : Str → D → Prop} (h : Wr (r.bind f) k e) : Wr r (fun a => Wr (f a) k e) e := by
  cases r with
  | ok a => exact h
  | exc c x => exact h
  | bad => exact h
inductive B where
  | un | va (d : D) | ow (k : Bool) (ds : List D)
abbrev Env' := List B
abbrev ES := List B → Rs (D × List B)
def KL (K : PySem.W.Frag) (a : Addr) (xs : List V) : Prop :=
  ∃ (o : Obj) (its : Array Value) (n : Nat), K.lookup a = some o ∧ o.cls = .type "list" ∧ o.dict = none ∧ o.data = .seq its n ∧ its.size ≤ sizeLine ∧ Vals xs its.toList ∧ o.slots = #[]
def RdL (K : PySem.W.Frag) (H : Hp) (a : Addr) (xs : List V) : Prop := Rd H a (.lst xs) ∨ KL K a xs
def KT (K : PySem.W.Frag) (a : Addr) (xs : List V) : Prop :=
  ∃ (o : Obj) (its : Array Value) (n : Nat), K.lookup a = some o ∧ o.cls = .type "tuple" ∧ o.data = .seq its n ∧ its.size ≤ sizeLine ∧ Vals xs its.toList
def AtL (K : PySem.W.Frag) (O : Addr → Prop) (H : Hp) (a : Addr) (xs : List V) : Prop := (Rd H a (.lst xs) ∧ ¬ O a) ∨ KL K a xs
def AtT (K : PySem.W.Frag) (O : Addr → Prop) (H : Hp) (a : Addr) (xs : List V) : Prop := (Rd H a (.tup xs) ∧ ¬ O a) ∨ KT K a xs
mutual
inductive Rep (K : PySem.W.Frag) (O : Addr → Prop) (H : Hp) : V → D → Prop
  | non : Rep K O H .non .non
  | bl (b : Bool) : Rep K O H (.bl b) (.bl b)
  | int (i : Int) : Rep K O H (.int i) (.int i)
  | str (x : Str) : Rep K O H (.str x) (.str x)
  | tup {a : Addr} {vs : List V} {ds : List D} : AtT K O H a vs → Reps K O H vs ds → Rep K O H (.ref a) (.tup ds)
  | lst {a : Addr} {vs : List V} {ds : List D} : AtL K O H a vs → Reps K O H vs ds → Rep K O H (.ref a) (.lst ds)
inductive Reps (K : PySem.W.Frag) (O : Addr → Prop) (H : Hp) : List V → List D → Prop
  | nil : Reps K O H [] []
  | cons {v : V} {vs : List V} {d : D} {ds : List D} : Rep K O H v d → Reps K O H vs ds → Reps K O H (v :: vs) (d :: ds)
end
def Ext (W : Addr → Prop) (H H' : Hp) : Prop := ∀ b o, ¬ W b → H b = some o → H' b = some o
theorem Ext.refl (W : Addr → Prop) (H : Hp) : Ext W H H := fun _ _ _ h => h
theorem Ext.trans {W : Addr → Prop} {H H1 H2 : Hp} (a : Ext W H H1) (b : Ext W H1 H2) : Ext W H H2 := fun c o w h => b c o w (a c o w h)
theorem Ext.of_same {W : Addr → Prop} {H H' : Hp} (s : Same H H') : Ext W H H' := fun b o _ h => s b o h
theorem Ext.mono {W W' : Addr → Prop} {H H' : Hp} (e : Ext W H H') (h : ∀ a, W a → W' a) : Ext W' H H' := fun b o w q => e b o (fun z => w (h b z)) q
def Al (O : Addr → Prop) (H : Hp) : Prop := ∀ a, O a → H a ≠ none
section
variable {K : PySem.W.Frag} {O O' W : Addr → Prop} {H H' : Hp} {a : Addr} {xs : List V}
theorem RdL.sq (h : RdL K H a xs) : SqL K H a xs := by
  rcases h with h | ⟨o, its, n, h1, h2, h3, h4, h5, h6, _⟩
  · exact .inl h
  · exact .inr ⟨o, its, n, h1, h2, h3, h4, h5, h6⟩
theorem AtL.rd (h : AtL K O H a xs) : RdL K H a xs := by
  rcases h with h | h
  · exact .inl h.1
  · exact .inr h
theorem AtL.sq (h : AtL K O H a xs) : SqL K H a xs := h.rd.sq
theorem RdL.same (h : RdL K H a xs) (e : Same H H') : RdL K H' a xs := by
  rcases h with (h | ⟨o, h⟩) | h
  · exact .inl (.inl (e a _ h))
  · exact .inl (.inr ⟨o, e a _ h⟩)
  · exact .inr h
theorem RdL.of (h : H a = some (.lst xs)) : RdL K H a xs := .inl (.inl h)
theorem AtT.sq (h : AtT K O H a xs) : SqT K H a xs := by
  rcases h with h | h
  · exact .inl h.1
  · exact .inr h
theorem Rd.ext {u : HO} (h : Rd H a u) (na : ¬ W a) (e : Ext W H H') : Rd H' a u := by
  rcases h with h | ⟨o, h⟩
  · exact .inl (e a _ na h)
  · exact .inr ⟨o, e a _ na h⟩
theorem AtL.ext (h : AtL K O H a xs) (e : Ext W H H') (s : ∀ a, W a → O a) : AtL K O H' a xs := by
  rcases h with ⟨h, n⟩ | h
  · exact .inl ⟨Rd.ext h (fun z => n (s _ z)) e, n⟩
  · exact .inr h
theorem AtT.ext (h : AtT K O H a xs) (e : Ext W H H') (s : ∀ a, W a → O a) : AtT K O H' a xs := by
  rcases h with ⟨h, n⟩ | h
  · exact .inl ⟨Rd.ext h (fun z => n (s _ z)) e, n⟩
  · exact .inr h
theorem Rd.there {u : HO} (h : Rd H a u) : H a ≠ none := by
  rcases h with h | ⟨o, h⟩ <;> rw [h] <;> exact fun z => nomatch z
mutual
theorem Rep.ext {v : V} {d : D} (r : Rep K O H v d) (e : Ext W H H') (s : ∀ a, W a → O a) : Rep K O H' v d := by
  cases r with
  | non => exact .non
  | bl b => exact .bl b
  | int i => exact .int i
  | str x => exact .str x
  | tup h t => exact .tup (h.ext e s) (Reps.ext t e s)
  | lst h t => exact .lst (h.ext e s) (Reps.ext t e s)
theorem Reps.ext {vs : List V} {ds : List D} (r : Reps K O H vs ds) (e : Ext W H H') (s : ∀ a, W a → O a) : Reps K O H' vs ds := by
  cases r with
  | nil => exact .nil
  | cons h t => exact .cons (Rep.ext h e s) (Reps.ext t e s)
end
mutual
theorem Rep.shun {v : V} {d : D} (r : Rep K O H v d) (s : ∀ a, O' a → O a ∨ H a = none) : Rep K O' H v d := by
  cases r with
  | non => exact .non
  | bl b => exact .bl b
  | int i => exact .int i
  | str x => exact .str x
  | tup h t =>
    refine .tup ?_ (Reps.shun t s)
    rcases h with ⟨h, n⟩ | h
    · exact .inl ⟨h, fun z => (s _ z).elim n (Rd.there h)⟩
    · exact .inr h
  | lst h t =>
    refine .lst ?_ (Reps.shun t s)
    rcases h with ⟨h, n⟩ | h
    · exact .inl ⟨h, fun z => (s _ z).elim n (Rd.there h)⟩
    · exact .inr h
theorem Reps.shun {vs : List V} {ds : List D} (r : Reps K O H vs ds) (s : ∀ a, O' a → O a ∨ H a = none) : Reps K O' H vs ds := by
  cases r with
  | nil => exact .nil
  | cons h t => exact .cons (Rep.shun h s) (Reps.shun t s)
end
theorem Rep.less {v : V} {d : D} (r : Rep K O H v d) (s : ∀ a, O' a → O a) : Rep K O' H v d := r.shun fun a z => .inl (s a z)
theorem Reps.less {vs : List V} {ds : List D} (r : Reps K O H vs ds) (s : ∀ a, O' a → O a) : Reps K O' H vs ds := r.shun fun a z => .inl (s a z)
theorem Rep.same {v : V} {d : D} (r : Rep K O H v d) (e : Same H H') : Rep K O H' v d := r.ext (W := fun _ => False) (Ext.of_same e) fun _ z => z.elim
theorem Reps.same {vs : List V} {ds : List D} (r : Reps K O H vs ds) (e : Same H H') : Reps K O H' vs ds := r.ext (W := fun _ => False) (Ext.of_same e) fun _ z => z.elim
theorem Reps.length : ∀ {vs : List V} {ds : List D}, Reps K O H vs ds → vs.length = ds.length
  | [], [], _ => rfl
  | _ :: _, _ :: _, .cons _ t => by rw [List.length_cons, List.length_cons, Reps.length t]
theorem Reps.get : ∀ {vs : List V} {ds : List D} {i : Nat} {v : V} {d : D}, Reps K O H vs ds → vs[i]? = some v → ds[i]? = some d → Rep K O H v d
  | _, _, _, _, _, .nil, h, _ => by simp at h
  | _, _, 0, _, _, .cons r _, h, q => by
    simp at h q; subst h; subst q; exact r
  | _, _, i + 1, _, _, .cons _ t, h, q => Reps.get (i := i) t (by simpa using h) (by simpa using q)
theorem Reps.at_ : ∀ {vs : List V} {ds : List D} {i : Nat} {d : D}, Reps K O H vs ds → ds[i]? = some d → ∃ v, vs[i]? = some v ∧ Rep K O H v d
  | _, _, _, _, .nil, h => by simp at h
  | _, _, 0, _, .cons r _, h => by
    simp at h; subst h; exact ⟨_, rfl, r⟩
  | _, _, i + 1, _, .cons _ t, h => by
    obtain ⟨v, h1, h2⟩ := Reps.at_ (i := i) t (by simpa using h)
    exact ⟨v, by simpa using h1, h2⟩
theorem Reps.append : ∀ {vs ws : List V} {ds es : List D}, Reps K O H vs ds → Reps K O H ws es → Reps K O H (vs ++ ws) (ds ++ es)
  | _, _, _, _, .nil, s => s
  | _, _, _, _, .cons r t, s => .cons r (Reps.append t s)
theorem Reps.one {v : V} {d : D} (r : Rep K O H v d) : Reps K O H [v] [d] := .cons r .nil
theorem Reps.take : ∀ {vs : List V} {ds : List D} (n : Nat), Reps K O H vs ds → Reps K O H (vs.take n) (ds.take n)
  | _, _, 0, _ => .nil
  | _, _, _ + 1, .nil => .nil
  | _, _, n + 1, .cons r t => .cons r (Reps.take n t)
theorem Reps.drop : ∀ {vs : List V} {ds : List D} (n : Nat), Reps K O H vs ds → Reps K O H (vs.drop n) (ds.drop n)
  | _, _, 0, r => r
  | _, _, _ + 1, .nil => .nil
  | _, _, n + 1, .cons _ t => Reps.drop n t
theorem Reps.set {v : V} {d : D} (r : Rep K O H v d) : ∀ {vs : List V} {ds : List D} (i : Nat), Reps K O H vs ds → Reps K O H (vs.set i v) (ds.set i d)
  | _, _, _, .nil => .nil
  | _, _, 0, .cons _ t => .cons r t
  | _, _, i + 1, .cons q t => .cons q (Reps.set r i t)
theorem Reps.reverse : ∀ {vs : List V} {ds : List D}, Reps K O H vs ds → Reps K O H vs.reverse ds.reverse
  | _, _, .nil => .nil
  | _, _, .cons r t => by
    rw [List.reverse_cons, List.reverse_cons]
    exact (Reps.reverse t).append (Reps.one r)
theorem Rep.int_inv {v : V} {i : Int} (r : Rep K O H v (.int i)) : v = .int i := by cases r; rfl
theorem Rep.bl_inv {v : V} {i : Bool} (r : Rep K O H v (.bl i)) : v = .bl i := by cases r; rfl
theorem Rep.str_inv {v : V} {i : Str} (r : Rep K O H v (.str i)) : v = .str i := by cases r; rfl
theorem Rep.non_inv {v : V} (r : Rep K O H v .non) : v = .non := by cases r; rfl
theorem Rep.tup_inv {v : V} {ds : List D} (r : Rep K O H v (.tup ds)) : ∃ a vs, v = .ref a ∧ AtT K O H a vs ∧ Reps K O H vs ds := by
  cases r with
  | tup h t => exact ⟨_, _, rfl, h, t⟩
theorem Rep.lst_inv {v : V} {ds : List D} (r : Rep K O H v (.lst ds)) : ∃ a vs, v = .ref a ∧ AtL K O H a vs ∧ Reps K O H vs ds := by
  cases r with
  | lst h t => exact ⟨_, _, rfl, h, t⟩
theorem Rep.newT {p : Addr} {vs : List V} {ds : List D} (al : Al O H) (n : H p = none) (r : Reps K O H vs ds) : Rep K O (upd H p (.tup vs)) (.ref p) (.tup ds) :=
  .tup (.inl ⟨.inl upd_same, fun z => al p z n⟩) (r.same fun b o e => by rw [upd_ne (ne_of_none e n)]; exact e)
theorem Rep.newL {p : Addr} {vs : List V} {ds : List D} (al : Al O H) (n : H p = none) (r : Reps K O H vs ds) : Rep K O (upd H p (.lst vs)) (.ref p) (.lst ds) :=
  .lst (.inl ⟨.inl upd_same, fun z => al p z n⟩) (r.same fun b o e => by rw [upd_ne (ne_of_none e n)]; exact e)
theorem same_new {p : Addr} {o : HO} (n : H p = none) : Same H (upd H p o) := fun b x e => by
  rw [upd_ne (ne_of_none e n)]
  exact e
theorem Al.ext (al : Al O H) (e : ∀ b o, H b = some o → ∃ o', H' b = some o') : Al O H' := fun a z => by
  cases q : H a with
  | none => exact absurd q (al a z)
  | some o =>
    obtain ⟨o', h⟩ := e a o q
    rw [h]
    exact fun z => nomatch z
theorem Al.same (al : Al O H) (e : Same H H') : Al O H' := al.ext fun b o h => ⟨o, e b o h⟩
def RepW (w : Bool) (K : PySem.W.Frag) (O : Addr → Prop) (H : Hp) (v : V) (d : D) : Prop :=
  Rep K O H v d ∨ (w = true ∧ ∃ a vs ds, v = .ref a ∧ d = .lst ds ∧ RdL K H a vs ∧ Reps K O H vs ds)
theorem RepW.same {w : Bool} {v : V} {d : D} (r : RepW w K O H v d) (e : Same H H') : RepW w K O H' v d := by
  rcases r with r | ⟨hw, a, vs, ds, h1, h2, h3, h4⟩
  · exact .inl (r.same e)
  · exact .inr ⟨hw, a, vs, ds, h1, h2, h3.same e, h4.same e⟩
theorem RepW.strict {v : V} {d : D} (r : RepW false K O H v d) : Rep K O H v d := by
  rcases r with r | ⟨hw, _⟩
  · exact r
  · cases hw
theorem RepW.weak {w : Bool} {v : V} {d : D} (r : RepW w K O H v d) : RepW true K O H v d := by
  rcases r with r | ⟨hw, q⟩
  · exact .inl r
  · exact .inr ⟨rfl, q⟩
theorem RepW.int_inv {w : Bool} {v : V} {i : Int} (r : RepW w K O H v (.int i)) : v = .int i := by
  rcases r with r | ⟨_, _, _, _, _, h, _⟩
  · exact r.int_inv
  · cases h
theorem RepW.bl_inv {w : Bool} {v : V} {i : Bool} (r : RepW w K O H v (.bl i)) : v = .bl i := by
  rcases r with r | ⟨_, _, _, _, _, h, _⟩
  · exact r.bl_inv
  · cases h
theorem RepW.str_inv {w : Bool} {v : V} {i : Str} (r : RepW w K O H v (.str i)) : v = .str i := by
  rcases r with r | ⟨_, _, _, _, _, h, _⟩
  · exact r.str_inv
  · cases h
theorem RepW.non_inv {w : Bool} {v : V} (r : RepW w K O H v .non) : v = .non := by
  rcases r with r | ⟨_, _, _, _, _, h, _⟩
  · exact r.non_inv
  · cases h
theorem RepW.tup_inv {w : Bool} {v : V} {ds : List D} (r : RepW w K O H v (.tup ds)) : ∃ a vs, v = .ref a ∧ AtT K O H a vs ∧ Reps K O H vs ds := by
  rcases r with r | ⟨_, _, _, _, _, h, _⟩
  · exact r.tup_inv
  · cases h
theorem RepW.lst_invR {w : Bool} {v : V} {ds : List D} (r : RepW w K O H v (.lst ds)) : ∃ a vs, v = .ref a ∧ RdL K H a vs ∧ Reps K O H vs ds := by
  rcases r with r | ⟨_, a, vs, ds', h1, h, h3, h4⟩
  · obtain ⟨a, vs, h1, h2, h3⟩ := r.lst_inv
    exact ⟨a, vs, h1, h2.rd, h3⟩
  · cases h
    exact ⟨a, vs, h1, h3, h4⟩
theorem RepW.lst_inv {w : Bool} {v : V} {ds : List D} (r : RepW w K O H v (.lst ds)) : ∃ a vs, v = .ref a ∧ SqL K H a vs ∧ Reps K O H vs ds := by
  obtain ⟨a, vs, h1, h2, h3⟩ := r.lst_invR
  exact ⟨a, vs, h1, h2.sq, h3⟩
end
def SlotR (K : PySem.W.Frag) (O W : Addr → Prop) (x : Option (Option V)) (H : Hp) : B → Prop
  | .un => True
  | .va d => ∃ v, x = some (some v) ∧ Rep K O H v d
  | .ow _ ds => ∃ p vs, x = some (some (.ref p)) ∧ W p ∧ H p = some (.lst vs) ∧ Reps K O H vs ds
def kindB : Option B → Option Bool
  | some (.ow k _) => some k
  | _ => none
abbrev isOw (o : Option B) : Bool := (kindB o).isSome
structure StR (K : PySem.W.Frag) (O W : Addr → Prop) (σ : St) (H : Hp) (ρ : List B) : Prop where
  len : σ.length = ρ.length
  slot : ∀ (i : Nat) (b : B), ρ[i]? = some b → SlotR K O W σ[i]? H b
  apart : ∀ (i j : Nat) (p : Addr), isOw ρ[i]? = true → isOw ρ[j]? = true → σ[i]? = some (some (.ref p)) → σ[j]? = some (some (.ref p)) → i = j
  sub : ∀ a, W a → O a
  al : Al O H
section
variable {K : PySem.W.Frag} {O W : Addr → Prop} {σ : St} {H H' : Hp} {ρ ρ' : List B}
theorem SlotR.same {x : Option (Option V)} {b : B} (s : SlotR K O W x H b) (e : Same H H') : SlotR K O W x H' b := by
  cases b with
  | un => exact trivial
  | va d =>
    obtain ⟨v, h, r⟩ := s
    exact ⟨v, h, r.same e⟩
  | ow k ds =>
    obtain ⟨p, vs, h, hw, hp, r⟩ := s
    exact ⟨p, vs, h, hw, e p _ hp, r.same e⟩
theorem StR.same (s : StR K O W σ H ρ) (e : Same H H') : StR K O W σ H' ρ := ⟨s.len, fun i b h => (s.slot i b h).same e, s.apart, s.sub, s.al.same e⟩
end
def Kd (ρ ρ' : List B) : Prop := ∀ i : Nat, kindB ρ'[i]? = kindB ρ[i]?
structure Post (p : Bool) (K : PySem.W.Frag) (O W : Addr → Prop) (σ : St) (H H' : Hp) (ρ ρ' : List B) : Prop where
  st : StR K O W σ H' ρ'
  ext : Ext W H H'
  kd : Kd ρ ρ'
  pure_ : p = true → Same H H' ∧ ρ' = ρ
section
variable {p q : Bool} {K : PySem.W.Frag} {O W : Addr → Prop} {σ : St} {H H1 H2 H' : Hp} {ρ ρ1 ρ2 ρ' : List B}
theorem Post.refl (s : StR K O W σ H ρ) : Post p K O W σ H H ρ ρ := ⟨s, Ext.refl _ _, fun _ => rfl, fun _ => ⟨fun _ _ h => h, rfl⟩⟩
theorem Post.of_same (s : StR K O W σ H ρ) (e : Same H H') : Post p K O W σ H H' ρ ρ := ⟨s.same e, Ext.of_same e, fun _ => rfl, fun _ => ⟨e, rfl⟩⟩
theorem Post.trans (a : Post p K O W σ H H1 ρ ρ1) (b : Post q K O W σ H1 H2 ρ1 ρ2) : Post (p && q) K O W σ H H2 ρ ρ2 :=
  ⟨b.st, a.ext.trans b.ext, fun i => (b.kd i).trans (a.kd i), fun e => by
    obtain ⟨e1, e2⟩ := Bool.and_eq_true_iff.mp e
    obtain ⟨s1, r1⟩ := a.pure_ e1
    obtain ⟨s2, r2⟩ := b.pure_ e2
    exact ⟨s1.trans s2, r2.trans r1⟩⟩
theorem Post.weak (a : Post p K O W σ H H1 ρ ρ1) (h : q = true → p = true) : Post q K O W σ H H1 ρ ρ1 := ⟨a.st, a.ext, a.kd, fun e => a.pure_ (h e)⟩
theorem Post.more (a : Post p K O W σ H H1 ρ ρ1) (e : Same H1 H2) : Post p K O W σ H H2 ρ ρ1 :=
  ⟨a.st.same e, a.ext.trans (Ext.of_same e), a.kd, fun h => ⟨(a.pure_ h).1.trans e, (a.pure_ h).2⟩⟩
theorem Post.keepW {w : Bool} {v : V} {d : D} (a : Post q K O W σ H H1 ρ ρ1) (h : (!w || q) = true) (r : RepW w K O H v d) : RepW w K O H1 v d := by
  cases q with
  | true => exact r.same (a.pure_ rfl).1
  | false =>
    cases w with
    | true => cases h
    | false =>
      rcases r with r | ⟨hw, _⟩
      · exact .inl (r.ext a.ext a.st.sub)
      · cases hw
end
def ExcR (K : PySem.W.Frag) (mg : Str → Option Value) (O : Addr → Prop) (H : Hp) (c : Str) (x : D) (cls : Value) (d : Option Addr) : Prop :=
  ∃ C dd v, mg c = some (.ref C) ∧ cls = .ref C ∧ d = some dd ∧ H dd = some (.xd [(("value" : Str), v)]) ∧ Rep K O H v x
def EX (X : Cx) (E : XK) (O W : Addr → Prop) (H : Hp) (c : Str) (x : D) : Prop := ∀ cls d H', Ext W H H' → ExcR X.K X.mg O H' c x cls d → E cls d H'
theorem EX.on {X : Cx} {E : XK} {O W : Addr → Prop} {H H1 : Hp} {c : Str} {x : D} (h : EX X E O W H c x) (e : Ext W H H1) : EX X E O W H1 c x := fun cls d H' e' r => h cls d H' (e.trans e') r
structure EV (X : Cx) (E : XK) (p w : Bool) (e : Expr) (f : ES) : Prop where
  ex : ∃ t, PE X e t ∧ ∀ (O W : Addr → Prop) (σ : St) (H : Hp) (ρ : List B) (Q : VK), StR X.K O W σ H ρ →
    Wr (f ρ) (fun r => ∀ v H', Post p X.K O W σ H H' ρ r.2 → RepW w X.K O H' v r.1 → Q v H') (EX X E O W H) → t σ H Q
structure TV (X : Cx) (E : XK) (p : Bool) (e : Expr) (f : List B → Rs (Bool × List B)) : Prop where
  ex : ∃ t, PT X e t ∧ ∀ (O W : Addr → Prop) (σ : St) (H : Hp) (ρ : List B) (Q : Bool → Hp → Prop), StR X.K O W σ H ρ →
    Wr (f ρ) (fun r => ∀ H', Post p X.K O W σ H H' ρ r.2 → Q r.1 H') (EX X E O W H) → t σ H Q
structure AV (X : Cx) (E : XK) (p w : Bool) (es : List Expr) (f : List B → Rs (List D × List B)) : Prop where
  ex : ∃ t, PA X es t ∧ ∀ (O W : Addr → Prop) (σ : St) (H : Hp) (ρ : List B) (Q : List V → Hp → Prop), StR X.K O W σ H ρ →
    Wr (f ρ) (fun r => ∀ vs H', Post p X.K O W σ H H' ρ r.2 → Paired (RepW w X.K O H') vs r.1 → Q vs H') (EX X E O W H) → t σ H Q
structure EO (X : Cx) (E : XK) (p : Bool) (e : Expr) (f : List B → Rs (List D × List B)) : Prop where
  ex : ∃ t, PE X e t ∧ ∀ (O W : Addr → Prop) (σ : St) (H : Hp) (ρ : List B) (Q : VK), StR X.K O W σ H ρ →
    Wr (f ρ) (fun r => ∀ q vs H', H q = none → Post p X.K O W σ H H' ρ r.2 → StR X.K (fun a => O a ∨ a = q) (fun a => W a ∨ a = q) σ H' r.2 → H' q = some (.lst vs) →
      Reps X.K (fun a => O a ∨ a = q) H' vs r.1 → Q (.ref q) H') (EX X E O W H) → t σ H Q
end RT
namespace RT
open PySem PySem.Spec PyProof.Rows L2
def ofO {α : Type} : Option α → Rs α
  | some a => .ok a
  | none => .bad
@[simp] theorem ofO_some {α : Type} (a : α) : ofO (some a) = .ok a := rfl
@[simp] theorem ofO_none {α : Type} : (ofO none : Rs α) = .bad := rfl
theorem Wr.ofO {α : Type} {r : Option α} {k : α → Prop} {e : Str → D → Prop} (h : Wr (ofO r) k e) : ∃ a, r = some a ∧ k a := by
  cases r with
  | some a => exact ⟨a, rfl, h⟩
  | none => exact h.elim
def eC (d : D) : ES := fun ρ => .ok (d, ρ)
def eSlot (i : Nat) : ES := fun ρ => match ρ[i]? with
  | some (.va d) => .ok (d, ρ)
  | _ => .bad
def eSlotW (i : Nat) : ES := fun ρ => match ρ[i]? with
  | some (.va d) => .ok (d, ρ)
  | some (.ow _ ds) => .ok (.lst ds, ρ)
  | _ => .bad
def eOp (f : D → D → Option D) (a b : ES) : ES := fun ρ => (a ρ).bind fun x => (b x.2).bind fun y => (ofO (f x.1 y.1)).bind fun z => .ok (z, y.2)
def eUn (f : D → Option D) (a : ES) : ES := fun ρ => (a ρ).bind fun x => (ofO (f x.1)).bind fun z => .ok (z, x.2)
abbrev BS := List B → Rs (Bool × List B)
def bV (a : ES) : BS := fun ρ => (a ρ).bind fun x => match x.1 with
  | .bl b => .ok (b, x.2)
  | _ => .bad
def bNot (a : BS) : BS := fun ρ => (a ρ).bind fun x => .ok (!x.1, x.2)
def bAnd (a b : BS) : BS := fun ρ => (a ρ).bind fun x => match x.1 with
  | true => b x.2
  | false => .ok (false, x.2)
def bOr (a b : BS) : BS := fun ρ => (a ρ).bind fun x => match x.1 with
  | true => .ok (true, x.2)
  | false => b x.2
def eB (a : BS) : ES := fun ρ => (a ρ).bind fun x => .ok (.bl x.1, x.2)
def eIf (c : BS) (a b : ES) : ES := fun ρ => (c ρ).bind fun x => match x.1 with
  | true => a x.2
  | false => b x.2
def eChain (f g : D → D → Option D) (a b c : ES) : ES := fun ρ => (a ρ).bind fun x => (b x.2).bind fun y => (ofO (f x.1 y.1)).bind fun z => match z with
  | .bl true => (c y.2).bind fun u => (ofO (g y.1 u.1)).bind fun z => match z with
    | .bl k => .ok (.bl k, u.2)
    | _ => .bad
  | .bl false => .ok (.bl false, y.2)
  | _ => .bad
abbrev AS := List B → Rs (List D × List B)
def aNil : AS := fun ρ => .ok ([], ρ)
def aCons (a : ES) (r : AS) : AS := fun ρ => (a ρ).bind fun x => (r x.2).bind fun y => .ok (x.1 :: y.1, y.2)
def eTup (a : AS) : ES := fun ρ => (a ρ).bind fun x => if x.1.length ≤ sizeLine then .ok (.tup x.1, x.2) else .bad
def oLst (a : AS) : AS := fun ρ => (a ρ).bind fun x => if x.1.length ≤ sizeLine then .ok (x.1, x.2) else .bad
def eO (a : AS) : ES := fun ρ => (a ρ).bind fun x => .ok (.lst x.1, x.2)
def eBlt (f : List D → Option D) (a : AS) : ES := fun ρ => (a ρ).bind fun x => (ofO (f x.1)).bind fun z => .ok (z, x.2)
def oBlt (f : List D → Option (List D)) (a : AS) : AS := fun ρ => (a ρ).bind fun x => (ofO (f x.1)).bind fun z => .ok (z, x.2)
def Od (K : PySem.W.Frag) (w1 w2 : Bool) (r : R2) (f : D → D → Option D) : Prop := ∀ (O : Addr → Prop) (H : Hp) (x y : V) (a b c : D) (Q : VK), Al O H → RepW w1 K O H x a → RepW w2 K O H y b → f a b = some c →
  (∀ v H', Same H H' → Rep K O H' v c → Q v H') → r x y H Q
def Ud (K : PySem.W.Frag) (w : Bool) (r : V → Hp → VK → Prop) (f : D → Option D) : Prop := ∀ (O : Addr → Prop) (H : Hp) (x : V) (a c : D) (Q : VK), Al O H → RepW w K O H x a → f a = some c →
  (∀ v H', Same H H' → Rep K O H' v c → Q v H') → r x H Q
def Cd (K : PySem.W.Frag) (w : Bool) (r : List V → Hp → VK → Prop) (f : List D → Option D) : Prop := ∀ (O : Addr → Prop) (H : Hp) (xs : List V) (as : List D) (c : D) (Q : VK), Al O H → Paired (RepW w K O H) xs as → f as = some c →
  (∀ v H', Same H H' → Rep K O H' v c → Q v H') → r xs H Q
def Co (K : PySem.W.Frag) (w : Bool) (r : List V → Hp → VK → Prop) (f : List D → Option (List D)) : Prop := ∀ (O : Addr → Prop) (H : Hp) (xs : List V) (as : List D) (c : List D) (Q : VK), Al O H → Paired (RepW w K O H) xs as → f as = some c →
  (∀ q vs, H q = none → Reps K O H vs c → Q (.ref q) (upd H q (.lst vs))) → r xs H Q
def Oo (K : PySem.W.Frag) (w1 w2 : Bool) (r : R2) (f : D → D → Option (List D)) : Prop := ∀ (O : Addr → Prop) (H : Hp) (x y : V) (a b : D) (c : List D) (Q : VK), Al O H → RepW w1 K O H x a → RepW w2 K O H y b → f a b = some c →
  (∀ q vs, H q = none → Reps K O H vs c → Q (.ref q) (upd H q (.lst vs))) → r x y H Q
section
variable {X : Cx} {E : XK} {p q p3 w w1 w2 : Bool} {a b c e : Expr} {fa fb fc : ES} {pos : Pos} {es : List Expr}
theorem ev_slot (i : Nat) {x : Str} (hN : X.N[i]? = some x := by rfl) (hv : Vis X.env.scope x := by first | exact Or.inl rfl | exact Or.inr (Or.inl rfl) | exact Or.inr (Or.inr rfl)) (hd : (x == ("__debug__" : Str)) = false := by decide)
    (hcd : (x == ("__classdict__" : Str)) = false := by decide) : EV X E true false (.Name x pos) (eSlot i) := by
  refine ⟨_, pe_var hN hv hd hcd, fun O W σ H ρ Q s h => ?_⟩
  unfold eSlot at h
  cases e : ρ[i]? with
  | none => rw [e] at h; exact h.elim
  | some b =>
    rw [e] at h
    cases b with
    | un => exact h.elim
    | ow k ds => exact h.elim
    | va d =>
      obtain ⟨v, h1, h2⟩ := s.slot i _ e
      exact ⟨v, h1, h v H (Post.refl s) (.inl h2)⟩
theorem ev_slotW (i : Nat) {x : Str} (hN : X.N[i]? = some x := by rfl) (hv : Vis X.env.scope x := by first | exact Or.inl rfl | exact Or.inr (Or.inl rfl) | exact Or.inr (Or.inr rfl)) (hd : (x == ("__debug__" : Str)) = false := by decide)
    (hcd : (x == ("__classdict__" : Str)) = false := by decide) : EV X E true true (.Name x pos) (eSlotW i) := by
  refine ⟨_, pe_var hN hv hd hcd, fun O W σ H ρ Q s h => ?_⟩
  unfold eSlotW at h
  cases e : ρ[i]? with
  | none => rw [e] at h; exact h.elim
  | some b =>
    rw [e] at h
    cases b with
    | un => exact h.elim
    | ow k ds =>
      obtain ⟨p, vs, h1, h2, h3, h4⟩ := s.slot i _ e
      exact ⟨.ref p, h1, h _ H (Post.refl s) (.inr ⟨rfl, p, vs, ds, rfl, rfl, RdL.of h3, h4⟩)⟩
    | va d =>
      obtain ⟨v, h1, h2⟩ := s.slot i _ e
      exact ⟨v, h1, h v H (Post.refl s) (.inl h2)⟩
theorem ev_c {v : V} {d : D} (h : PE X e (tC v)) (r : ∀ K O H, Rep K O H v d) : EV X E true false e (eC d) :=
  ⟨_, h, fun O W σ H ρ Q s h => h v H (Post.refl s) (.inl (r _ _ _))⟩
theorem ev_int {i : Int} {j : Nat} : EV X E true false (.Constant (.int i) j pos) (eC (.int i)) := ev_c pe_int fun _ _ _ => .int i
theorem ev_bl {i : Bool} {j : Nat} : EV X E true false (.Constant (.bool i) j pos) (eC (.bl i)) := ev_c pe_bl fun _ _ _ => .bl i
theorem ev_non {j : Nat} : EV X E true false (.Constant .none j pos) (eC .non) := ev_c pe_non fun _ _ _ => .non
theorem ev_str {i : Str} {j : Nat} : EV X E true false (.Constant (.str i) j pos) (eC (.str i)) := ev_c pe_str fun _ _ _ => .str i
theorem ev_gint {x : Str} {i : Int} (hg : Gl X x) (hm : ∃ t, X.mg x = some (.int i t)) (hd : (x == ("__debug__" : Str)) = false := by decide) : EV X E true false (.Name x pos) (eC (.int i)) := by
  obtain ⟨t, hm⟩ := hm
  exact ev_c (pe_glob hg hm (v := .int i) ⟨t, rfl⟩ hd) fun _ _ _ => .int i
theorem ev_gstr {x : Str} {i : Str} (hg : Gl X x) (hm : ∃ t, X.mg x = some (.str i t)) (hd : (x == ("__debug__" : Str)) = false := by decide) : EV X E true false (.Name x pos) (eC (.str i)) := by
  obtain ⟨t, hm⟩ := hm
  exact ev_c (pe_glob hg hm (v := .str i) ⟨t, rfl⟩ hd) fun _ _ _ => .str i
theorem bin2 {ta tb : TE} (ha : ∀ (O W : Addr → Prop) (σ : St) (H : Hp) (ρ : List B) (Q : VK), StR X.K O W σ H ρ → Wr (fa ρ) (fun r => ∀ v H', Post p X.K O W σ H H' ρ r.2 → RepW w1 X.K O H' v r.1 → Q v H') (EX X E O W H) → ta σ H Q)
    (hb : ∀ (O W : Addr → Prop) (σ : St) (H : Hp) (ρ : List B) (Q : VK), StR X.K O W σ H ρ → Wr (fb ρ) (fun r => ∀ v H', Post q X.K O W σ H H' ρ r.2 → RepW w2 X.K O H' v r.1 → Q v H') (EX X E O W H) → tb σ H Q) (hw : (!w1 || q) = true)
    {O W : Addr → Prop} {σ : St} {H : Hp} {ρ : List B} {R : V → V → Hp → Prop} (s : StR X.K O W σ H ρ)
    (h : Wr (fa ρ) (fun x => Wr (fb x.2) (fun y => ∀ v u H', Post (p && q) X.K O W σ H H' ρ y.2 → RepW w1 X.K O H' v x.1 → RepW w2 X.K O H' u y.1 → R v u H') (EX X E O W H)) (EX X E O W H)) :
    ta σ H fun v H1 => tb σ H1 fun u H2 => R v u H2 := by
  refine ha O W σ H ρ _ s (h.mono (fun x hx v H1 p1 r1 => ?_) fun _ _ z => z)
  refine hb O W σ H1 x.2 _ p1.st (hx.mono (fun y hy u H2 p2 r2 => ?_) fun _ _ z => z.on p1.ext)
  exact hy v u H2 (p1.trans p2) (p2.keepW hw r1) r2
theorem ev_op {op : Operator} {r : R2} {f : D → D → Option D} (ho : OpR X (binaryOp op) r) (hd : Od X.K w1 w2 r f) (ha : EV X E p w1 a fa) (hb : EV X E q w2 b fb) (hw : (!w1 || q) = true := by rfl) : EV X E (p && q) w (.BinOp a op b pos) (eOp f fa fb) := by
  obtain ⟨ta, pa, ra⟩ := ha.ex
  obtain ⟨tb, pb, rb⟩ := hb.ex
  refine ⟨_, pe_op ho pa pb, fun O W σ H ρ Q s h => ?_⟩
  refine bin2 ra rb hw s (h.bind.mono (fun x hx => hx.bind.mono (fun y hy v u H' po r1 r2 => ?_) fun _ _ z => z) fun _ _ z => z)
  obtain ⟨z, ez, hz⟩ := hy.bind.ofO
  exact hd O H' v u _ _ z Q po.st.al r1 r2 ez fun v' H2 sm r => hz v' H2 (po.more sm) (.inl r)
theorem ev_cmp {op : CmpOp} {r : R2} {f : D → D → Option D} (ho : OpR X (compareOp op) r) (hd : Od X.K w1 w2 r f) (ha : EV X E p w1 a fa) (hb : EV X E q w2 b fb) (hm : behindInMarks op b = false) (hw : (!w1 || q) = true := by rfl) : EV X E (p && q) w (.Compare a [op] [b] pos) (eOp f fa fb) := by
  obtain ⟨ta, pa, ra⟩ := ha.ex
  obtain ⟨tb, pb, rb⟩ := hb.ex
  refine ⟨_, pe_cmpR ho pa pb hm, fun O W σ H ρ Q s h => ?_⟩
  refine bin2 ra rb hw s (h.bind.mono (fun x hx => hx.bind.mono (fun y hy v u H' po r1 r2 => ?_) fun _ _ z => z) fun _ _ z => z)
  obtain ⟨z, ez, hz⟩ := hy.bind.ofO
  exact hd O H' v u _ _ z Q po.st.al r1 r2 ez fun v' H2 sm r => hz v' H2 (po.more sm) (.inl r)
theorem tv_cmp {op : CmpOp} {r : R2} {f : D → D → Option D} (ho : OpR X (compareOp op) r) (hd : Od X.K w1 w2 r f) (ha : EV X E p w1 a fa) (hb : EV X E q w2 b fb) (hm : behindInMarks op b = false) (hw : (!w1 || q) = true := by rfl) : TV X E (p && q) (.Compare a [op] [b] pos) (bV (eOp f fa fb)) := by
  obtain ⟨ta, pa, ra⟩ := ha.ex
  obtain ⟨tb, pb, rb⟩ := hb.ex
  refine ⟨_, pt_cmpR ho pa pb hm, fun O W σ H ρ Q s h => ?_⟩
  refine bin2 ra rb hw s (h.bind.bind.mono (fun x hx => hx.bind.mono (fun y hy v u H' po r1 r2 => ?_) fun _ _ z => z) fun _ _ z => z)
  obtain ⟨z, ez, hz⟩ := hy.bind.ofO
  refine hd O H' v u _ _ z _ po.st.al r1 r2 ez fun v' H2 sm r => ?_
  cases z with
  | bl k => exact ⟨k, r.bl_inv, hz H2 (po.more sm)⟩
  | _ => exact hz.elim
theorem chain_bl {f g : D → D → Option D} {ρ : List B} {y : D × List B} (h : eChain f g fa fb fc ρ = .ok y) : ∃ k, y.1 = .bl k := by
  unfold eChain at h
  cases e1 : fa ρ with
  | exc c x => rw [e1] at h; cases h
  | bad => rw [e1] at h; cases h
  | ok x =>
    rw [e1, Rs.ok_bind] at h
    cases e2 : fb x.2 with
    | exc c x => rw [e2] at h; cases h
    | bad => rw [e2] at h; cases h
    | ok x2 =>
      rw [e2, Rs.ok_bind] at h
      cases e3 : f x.1 x2.1 with
      | none => rw [e3] at h; cases h
      | some z =>
        rw [e3, ofO_some, Rs.ok_bind] at h
        cases z with
        | bl k =>
          cases k with
          | false => cases h; exact ⟨_, rfl⟩
          | true =>
            have h : ((fc x2.2).bind fun u => (ofO (g x2.1 u.1)).bind fun z => match z with
              | .bl k => .ok (.bl k, u.2)
              | _ => .bad) = .ok y := h
            cases e4 : fc x2.2 with
            | exc c x => rw [e4] at h; cases h
            | bad => rw [e4] at h; cases h
            | ok u =>
              rw [e4, Rs.ok_bind] at h
              cases e5 : g x2.1 u.1 with
              | none => rw [e5] at h; cases h
              | some z =>
                rw [e5, ofO_some, Rs.ok_bind] at h
                cases z with
                | bl k => cases h; exact ⟨_, rfl⟩
                | _ => cases h
        | _ => cases h
theorem chain_rd {r r' : R2} {f g : D → D → Option D} {ta tb tc : TE} (hd : Od X.K false w2 r f) (hd' : Od X.K w2 false r' g)
    (ra : ∀ (O W : Addr → Prop) (σ : St) (H : Hp) (ρ : List B) (Q : VK), StR X.K O W σ H ρ → Wr (fa ρ) (fun r => ∀ v H', Post p X.K O W σ H H' ρ r.2 → RepW false X.K O H' v r.1 → Q v H') (EX X E O W H) → ta σ H Q)
    (rb : ∀ (O W : Addr → Prop) (σ : St) (H : Hp) (ρ : List B) (Q : VK), StR X.K O W σ H ρ → Wr (fb ρ) (fun r => ∀ v H', Post q X.K O W σ H H' ρ r.2 → RepW w2 X.K O H' v r.1 → Q v H') (EX X E O W H) → tb σ H Q)
    (rc : ∀ (O W : Addr → Prop) (σ : St) (H : Hp) (ρ : List B) (Q : VK), StR X.K O W σ H ρ → Wr (fc ρ) (fun r => ∀ v H', Post p3 X.K O W σ H H' ρ r.2 → RepW false X.K O H' v r.1 → Q v H') (EX X E O W H) → tc σ H Q)
    (hw : (!w2 || p3) = true) {O W : Addr → Prop} {σ : St} {H : Hp} {ρ : List B} {Q : VK} (s : StR X.K O W σ H ρ)
    (h : Wr (eChain f g fa fb fc ρ) (fun r => ∀ H', Post (p && q && p3) X.K O W σ H H' ρ r.2 → ∃ k, r.1 = .bl k ∧ Q (.bl k) H') (EX X E O W H)) : tChain r r' ta tb tc σ H Q := by
  unfold eChain at h
  refine bin2 ra rb (by rfl) s (h.bind.mono (fun x hx => hx.bind.mono (fun y hy v u H' po r1 r2 => ?_) fun _ _ z => z) fun _ _ z => z)
  obtain ⟨z, ez, hz⟩ := hy.bind.ofO
  refine hd O H' v u _ _ z _ po.st.al r1 r2 ez fun v' H2 sm rr => ?_
  cases z with
  | bl k =>
    refine ⟨k, rr.bl_inv, ?_⟩
    have po2 := po.more sm
    cases k with
    | false =>
      refine iteF ?_
      have hz : ∀ H', Post (p && q && p3) X.K O W σ H H' ρ y.2 → ∃ k, D.bl false = .bl k ∧ Q (.bl k) H' := hz
      obtain ⟨k, e, hq⟩ := hz H2 (po2.weak fun e => (Bool.and_eq_true_iff.mp e).1)
      cases e
      exact hq
    | true =>
      refine iteT ?_
      have hz : Wr ((fc y.2).bind fun u => (ofO (g y.1 u.1)).bind fun z => match z with
        | .bl k => .ok (D.bl k, u.2)
        | _ => .bad) (fun r => ∀ H', Post (p && q && p3) X.K O W σ H H' ρ r.2 → ∃ k, r.1 = D.bl k ∧ Q (.bl k) H') (EX X E O W H) := hz
      refine rc O W σ H2 y.2 _ po2.st (hz.bind.mono (fun m hm v3 H3 p3' r3 => ?_) fun _ _ z => z.on po2.ext)
      obtain ⟨z, ez, hz⟩ := hm.bind.ofO
      refine hd' O H3 u v3 _ _ z _ p3'.st.al (p3'.keepW hw (r2.same sm)) r3 ez fun v4 H4 sm4 rr4 => ?_
      cases z with
      | bl k =>
        obtain ⟨k', e, hq⟩ := hz H4 ((po2.trans p3').more sm4)
        cases e
        rw [rr4.bl_inv]
        exact hq
      | _ => exact hz.elim
  | _ => exact hz.elim
theorem ev_chain {op op' : CmpOp} {r r' : R2} {f g : D → D → Option D} (ho : OpR X (compareOp op) r) (hd : Od X.K false w2 r f) (ho' : OpR X (compareOp op') r') (hd' : Od X.K w2 false r' g)
    (ha : EV X E p false a fa) (hb : EV X E q w2 b fb) (hc : EV X E p3 false c fc) (hw : (!w2 || p3) = true := by rfl)
    (hm : lastMarks [op, op'] [b, c] = false := by with_unfolding_all rfl) : EV X E (p && q && p3) w (.Compare a [op, op'] [b, c] pos) (eChain f g fa fb fc) := by
  obtain ⟨ta, pa, ra⟩ := ha.ex
  obtain ⟨tb, pb, rb⟩ := hb.ex
  obtain ⟨tc, pc, rc⟩ := hc.ex
  refine ⟨_, pe_chain ho ho' pa pb pc hm, fun O W σ H ρ Q s h => ?_⟩
  refine chain_rd hd hd' ra rb rc hw s ?_
  cases e : eChain f g fa fb fc ρ with
  | exc c x => rw [e] at h; exact h
  | bad => rw [e] at h; exact h
  | ok y =>
    rw [e] at h
    intro H' po
    obtain ⟨k, hk⟩ := chain_bl e
    exact ⟨k, hk, h _ H' po (by rw [hk]; exact .inl (.bl k))⟩
theorem tv_chain {op op' : CmpOp} {r r' : R2} {f g : D → D → Option D} (ho : OpR X (compareOp op) r) (hd : Od X.K false w2 r f) (ho' : OpR X (compareOp op') r') (hd' : Od X.K w2 false r' g)
    (ha : EV X E p false a fa) (hb : EV X E q w2 b fb) (hc : EV X E p3 false c fc) (hw : (!w2 || p3) = true := by rfl)
    (hm : lastMarks [op, op'] [b, c] = false := by with_unfolding_all rfl) : TV X E (p && q && p3) (.Compare a [op, op'] [b, c] pos) (bV (eChain f g fa fb fc)) := by
  obtain ⟨ta, pa, ra⟩ := ha.ex
  obtain ⟨tb, pb, rb⟩ := hb.ex
  obtain ⟨tc, pc, rc⟩ := hc.ex
  refine ⟨_, pt_chain ho ho' pa pb pc hm, fun O W σ H ρ Q s h => ?_⟩
  refine chain_rd (Q := fun x H' => ∃ k, x = .bl k ∧ Q k H') hd hd' ra rb rc hw s (h.bind.mono (fun y hy H' po => ?_) fun _ _ z => z)
  obtain ⟨d, ρ'⟩ := y
  cases d with
  | bl k => exact ⟨k, rfl, k, rfl, hy H' po⟩
  | _ => exact hy.elim
theorem tv_val {t : ES} (h : EV X E p w e t) (he : ∀ whole, isTrue e X.env whole = (do let v ← whole; standAt e.pos; holding [v] (truthy v)) := by intro _; rfl) : TV X E p e (bV t) := by
  obtain ⟨tt, pt, rt⟩ := h.ex
  refine ⟨_, pt_val pt he, fun O W σ H ρ Q s h => ?_⟩
  refine rt O W σ H ρ _ s (h.bind.mono (fun x hx v H' po r => ?_) fun _ _ z => z)
  obtain ⟨d, ρ'⟩ := x
  cases d with
  | bl k => exact ⟨k, r.bl_inv, hx H' po⟩
  | _ => exact hx.elim
variable {ba bb : BS} {rest : List Expr}
theorem tv_not (h : TV X E p a ba) : TV X E p (.UnaryOp .Not a pos) (bNot ba) := by
  obtain ⟨t, pt, rt⟩ := h.ex
  refine ⟨_, pt_not pt, fun O W σ H ρ Q s h => ?_⟩
  exact rt O W σ H ρ _ s (h.bind.mono (fun x hx H' po => hx H' po) fun _ _ z => z)
structure TW (X : Cx) (E : XK) (p : Bool) (e : Expr) (f : BS) : Prop where
  ex : ∃ t, PW X e t ∧ ∀ (O W : Addr → Prop) (σ : St) (H : Hp) (ρ : List B) (Q : Bool → Hp → Prop), StR X.K O W σ H ρ →
    Wr (f ρ) (fun r => ∀ H', Post p X.K O W σ H H' ρ r.2 → Q r.1 H') (EX X E O W H) → t σ H Q
theorem TW.tv (h : TW X E p e ba) : TV X E p e ba := by
  obtain ⟨t, pt, rt⟩ := h.ex
  exact ⟨_, pt.pt, rt⟩
theorem tw_and1 (h : TV X E p a ba) : TW X E p (.BoolOp .And [a] pos) ba := by
  obtain ⟨t, pt, rt⟩ := h.ex
  exact ⟨_, pw_and1 pt, rt⟩
theorem tw_or1 (h : TV X E p a ba) : TW X E p (.BoolOp .Or [a] pos) ba := by
  obtain ⟨t, pt, rt⟩ := h.ex
  exact ⟨_, pw_or1 pt, rt⟩
theorem tw_and (ha : TV X E p a ba) (hb : TW X E q (.BoolOp .And (b :: rest) pos) bb) : TW X E (p && q) (.BoolOp .And (a :: b :: rest) pos) (bAnd ba bb) := by
  obtain ⟨ta, pa, ra⟩ := ha.ex
  obtain ⟨tb, pb, rb⟩ := hb.ex
  refine ⟨_, pw_and pa pb, fun O W σ H ρ Q s h => ?_⟩
  refine ra O W σ H ρ _ s (h.bind.mono (fun x hx H1 p1 => ?_) fun _ _ z => z)
  obtain ⟨k, ρ1⟩ := x
  cases k with
  | true => exact iteT (rb O W σ H1 ρ1 _ p1.st (Wr.mono hx (fun y hy H2 p2 => hy H2 (p1.trans p2)) fun _ _ z => z.on p1.ext))
  | false => exact iteF (hx H1 (p1.weak fun e => (Bool.and_eq_true_iff.mp e).1))
theorem tw_or (ha : TV X E p a ba) (hb : TW X E q (.BoolOp .Or (b :: rest) pos) bb) : TW X E (p && q) (.BoolOp .Or (a :: b :: rest) pos) (bOr ba bb) := by
  obtain ⟨ta, pa, ra⟩ := ha.ex
  obtain ⟨tb, pb, rb⟩ := hb.ex
  refine ⟨_, pw_or pa pb, fun O W σ H ρ Q s h => ?_⟩
  refine ra O W σ H ρ _ s (h.bind.mono (fun x hx H1 p1 => ?_) fun _ _ z => z)
  obtain ⟨k, ρ1⟩ := x
  cases k with
  | false => exact iteF (rb O W σ H1 ρ1 _ p1.st (Wr.mono hx (fun y hy H2 p2 => hy H2 (p1.trans p2)) fun _ _ z => z.on p1.ext))
  | true => exact iteT (hx H1 (p1.weak fun e => (Bool.and_eq_true_iff.mp e).1))
theorem ev_one {op : BoolOp} {t : ES} (h : EV X E p w a t) : EV X E p w (.BoolOp op [a] pos) t := by
  obtain ⟨ta, pa, ra⟩ := h.ex
  exact ⟨_, pe_one pa, ra⟩
def eAnd (a b : ES) : ES := fun ρ => (a ρ).bind fun x => match x.1 with
  | .bl true => b x.2
  | .bl false => .ok (.bl false, x.2)
  | _ => .bad
def eOr (a b : ES) : ES := fun ρ => (a ρ).bind fun x => match x.1 with
  | .bl true => .ok (.bl true, x.2)
  | .bl false => b x.2
  | _ => .bad
def eNot (a : ES) : ES := fun ρ => (a ρ).bind fun x => match x.1 with
  | .bl k => .ok (.bl (!k), x.2)
  | _ => .bad
theorem ev_and (ha : EV X E p w1 a fa) (hb : EV X E q w (.BoolOp .And (b :: rest) pos) fb) : EV X E (p && q) w (.BoolOp .And (a :: b :: rest) pos) (eAnd fa fb) := by
  obtain ⟨ta, pa, ra⟩ := ha.ex
  obtain ⟨tb, pb, rb⟩ := hb.ex
  refine ⟨_, pe_and pa pb, fun O W σ H ρ Q s h => ?_⟩
  refine ra O W σ H ρ _ s (h.bind.mono (fun x hx v H1 p1 r => ?_) fun _ _ z => z)
  obtain ⟨d, ρ1⟩ := x
  cases d with
  | bl k =>
    refine ⟨k, r.bl_inv, ?_⟩
    cases k with
    | true => exact iteT (rb O W σ H1 ρ1 _ p1.st (Wr.mono hx (fun y hy v H2 p2 r2 => hy v H2 (p1.trans p2) r2) fun _ _ z => z.on p1.ext))
    | false => exact iteF (hx _ H1 (p1.weak fun e => (Bool.and_eq_true_iff.mp e).1) (.inl (.bl false)))
  | _ => exact hx.elim
theorem ev_or (ha : EV X E p w1 a fa) (hb : EV X E q w (.BoolOp .Or (b :: rest) pos) fb) : EV X E (p && q) w (.BoolOp .Or (a :: b :: rest) pos) (eOr fa fb) := by
  obtain ⟨ta, pa, ra⟩ := ha.ex
  obtain ⟨tb, pb, rb⟩ := hb.ex
  refine ⟨_, pe_or pa pb, fun O W σ H ρ Q s h => ?_⟩
  refine ra O W σ H ρ _ s (h.bind.mono (fun x hx v H1 p1 r => ?_) fun _ _ z => z)
  obtain ⟨d, ρ1⟩ := x
  cases d with
  | bl k =>
    refine ⟨k, r.bl_inv, ?_⟩
    cases k with
    | false => exact iteF (rb O W σ H1 ρ1 _ p1.st (Wr.mono hx (fun y hy v H2 p2 r2 => hy v H2 (p1.trans p2) r2) fun _ _ z => z.on p1.ext))
    | true => exact iteT (hx _ H1 (p1.weak fun e => (Bool.and_eq_true_iff.mp e).1) (.inl (.bl true)))
  | _ => exact hx.elim
theorem ev_not (ha : EV X E p w1 a fa) : EV X E p w (.UnaryOp .Not a pos) (eNot fa) := by
  obtain ⟨ta, pa, ra⟩ := ha.ex
  refine ⟨_, pe_not pa, fun O W σ H ρ Q s h => ?_⟩
  refine ra O W σ H ρ _ s (h.bind.mono (fun x hx v H1 p1 r => ?_) fun _ _ z => z)
  obtain ⟨d, ρ1⟩ := x
  cases d with
  | bl k => exact ⟨k, r.bl_inv, hx _ H1 p1 (.inl (.bl (!k)))⟩
  | _ => exact hx.elim
theorem ev_if {bc : BS} (hc : TV X E p c bc) (ha : EV X E q w a fa) (hb : EV X E p3 w b fb) : EV X E (p && (q && p3)) w (.IfExp c a b pos) (eIf bc fa fb) := by
  obtain ⟨tc, pc, rc⟩ := hc.ex
  obtain ⟨ta, pa, ra⟩ := ha.ex
  obtain ⟨tb, pb, rb⟩ := hb.ex
  refine ⟨_, pe_ifExp pc pa pb, fun O W σ H ρ Q s h => ?_⟩
  refine rc O W σ H ρ _ s (h.bind.mono (fun x hx H1 p1 => ?_) fun _ _ z => z)
  obtain ⟨k, ρ1⟩ := x
  cases k with
  | true => exact iteT (ra O W σ H1 ρ1 _ p1.st (Wr.mono hx (fun y hy v H2 p2 r2 => hy v H2 ((p1.trans p2).weak fun e => by
      obtain ⟨e1, e2⟩ := Bool.and_eq_true_iff.mp e
      rw [e1, (Bool.and_eq_true_iff.mp e2).1] <;> rfl) r2) fun _ _ z => z.on p1.ext))
  | false => exact iteF (rb O W σ H1 ρ1 _ p1.st (Wr.mono hx (fun y hy v H2 p2 r2 => hy v H2 ((p1.trans p2).weak fun e => by
      obtain ⟨e1, e2⟩ := Bool.and_eq_true_iff.mp e
      rw [e1, (Bool.and_eq_true_iff.mp e2).2] <;> rfl) r2) fun _ _ z => z.on p1.ext))
theorem ev_un {op : UnaryOp} {r : V → Hp → VK → Prop} {f : D → Option D} (ho : UnR X (unaryOp op) r) (hd : Ud X.K w1 r f) (ha : EV X E p w1 a fa) : EV X E p w (.UnaryOp op a pos) (eUn f fa) := by
  obtain ⟨ta, pa, ra⟩ := ha.ex
  refine ⟨_, pe_un ho pa, fun O W σ H ρ Q s h => ?_⟩
  refine ra O W σ H ρ _ s (h.bind.mono (fun x hx v H1 p1 r => ?_) fun _ _ z => z)
  obtain ⟨z, ez, hz⟩ := hx.bind.ofO
  exact hd O H1 v _ z Q p1.st.al r ez fun v' H2 sm r => hz v' H2 (p1.more sm) (.inl r)
theorem av_nil : AV X E true w [] aNil := ⟨_, pa_nil, fun O W σ H ρ Q s h => h [] H (Post.refl s) .nil⟩
theorem Paired.keep {q : Bool} {O W : Addr → Prop} {σ : St} {H H1 : Hp} {ρ ρ1 : List B} (po : Post q X.K O W σ H H1 ρ ρ1) (hw : (!w || q) = true) : ∀ {vs : List V} {ds : List D}, Paired (RepW w X.K O H) vs ds → Paired (RepW w X.K O H1) vs ds
  | _, _, .nil => .nil
  | _, _, .cons r t => .cons (po.keepW hw r) (Paired.keep po hw t)
theorem av_cons {ar : AS} (ha : EV X E p w e fa) (hr : AV X E q w es ar) (hw : (!w || q) = true := by rfl) (hs : starEach (e :: es) X.env = (false, eval e X.env) :: starEach es X.env := by rfl) : AV X E (p && q) w (e :: es) (aCons fa ar) := by
  obtain ⟨ta, pa, ra⟩ := ha.ex
  obtain ⟨tb, pb, rb⟩ := hr.ex
  refine ⟨_, pa_cons pa pb hs, fun O W σ H ρ Q s h => ?_⟩
  refine ra O W σ H ρ _ s (h.bind.mono (fun x hx v H1 p1 r => ?_) fun _ _ z => z)
  refine rb O W σ H1 x.2 _ p1.st (hx.bind.mono (fun y hy vs H2 p2 r2 => ?_) fun _ _ z => z.on p1.ext)
  exact hy (v :: vs) H2 (p1.trans p2) (.cons (p2.keepW hw r) r2)
theorem reps_of {O : Addr → Prop} {H : Hp} {K : PySem.W.Frag} : ∀ {vs : List V} {ds : List D}, Paired (RepW false K O H) vs ds → Reps K O H vs ds
  | _, _, .nil => .nil
  | _, _, .cons r t => .cons r.strict (reps_of t)
theorem Post.newObj {p : Bool} {K : PySem.W.Frag} {O W : Addr → Prop} {σ : St} {H H1 : Hp} {ρ ρ1 : List B} {a : Addr} {o : HO} (po : Post p K O W σ H H1 ρ ρ1) (n : H1 a = none) : Post p K O W σ H (upd H1 a o) ρ ρ1 := po.more (same_new n)
theorem ev_tup {k : Nat} {ar : AS} (ha : AV X E p false es ar) : EV X E p w (.Tuple es k pos) (eTup ar) := by
  obtain ⟨ta, pa, ra⟩ := ha.ex
  refine ⟨_, pe_tup pa, fun O W σ H ρ Q s h => ?_⟩
  refine ra O W σ H ρ _ s (h.bind.mono (fun x hx vs H1 p1 r => ?_) fun _ _ z => z)
  have rr := reps_of r
  by_cases hl : x.1.length ≤ sizeLine
  · rw [if_pos hl] at hx
    refine ⟨by rw [rr.length]; exact hl, fun t nt => ?_⟩
    exact hx _ _ (p1.newObj nt) (.inl (Rep.newT p1.st.al nt rr))
  · rw [if_neg hl] at hx
    exact hx.elim
theorem StR.grow {K : PySem.W.Frag} {O W : Addr → Prop} {σ : St} {H : Hp} {ρ : List B} {a : Addr} {o : HO} (s : StR K O W σ H ρ) (n : H a = none) : StR K (fun b => O b ∨ b = a) (fun b => W b ∨ b = a) σ (upd H a o) ρ := by
  have sm : Same H (upd H a o) := same_new n
  refine ⟨s.len, fun i b e => ?_, s.apart, fun b z => z.elim (fun z => .inl (s.sub b z)) .inr, fun b z => ?_⟩
  · have q := s.slot i b e
    cases b with
    | un => exact trivial
    | va d =>
      obtain ⟨v, h1, h2⟩ := q
      exact ⟨v, h1, (h2.shun fun b z => z.elim .inl fun e => .inr (by rw [e]; exact n)).same sm⟩
    | ow k ds =>
      obtain ⟨p, vs, h1, h2, h3, h4⟩ := q
      exact ⟨p, vs, h1, .inl h2, sm p _ h3, (h4.shun fun b z => z.elim .inl fun e => .inr (by rw [e]; exact n)).same sm⟩
  · rcases z with z | z
    · cases q : H b with
      | none => exact absurd q (s.al b z)
      | some u => rw [sm b u q]; exact fun z => nomatch z
    · rw [z, upd_same]; exact fun z => nomatch z
theorem Reps.grow {K : PySem.W.Frag} {O : Addr → Prop} {H : Hp} {vs : List V} {ds : List D} {a : Addr} {o : HO} (r : Reps K O H vs ds) (n : H a = none) : Reps K (fun b => O b ∨ b = a) (upd H a o) vs ds :=
  (r.shun fun b z => z.elim .inl fun e => .inr (by rw [e]; exact n)).same (same_new n)
theorem eo_end {O W : Addr → Prop} {σ : St} {H H1 : Hp} {ρ ρ1 : List B} {ds : List D} {Q : VK}
    (h : ∀ q vs H', H q = none → Post p X.K O W σ H H' ρ ρ1 → StR X.K (fun a => O a ∨ a = q) (fun a => W a ∨ a = q) σ H' ρ1 → H' q = some (.lst vs) → Reps X.K (fun a => O a ∨ a = q) H' vs ds → Q (.ref q) H')
    (po : Post p X.K O W σ H H1 ρ ρ1) (q : Addr) (vs : List V) (n : H1 q = none) (r : Reps X.K O H1 vs ds) (hl : H q = none) : Q (.ref q) (upd H1 q (.lst vs)) :=
  h q vs _ hl (po.newObj n) (po.st.grow n) upd_same (r.grow n)
theorem Post.free {K : PySem.W.Frag} {O W : Addr → Prop} {σ : St} {H H1 : Hp} {ρ ρ1 : List B} (po : Post p K O W σ H H1 ρ ρ1) (al : ∀ a, W a → H1 a ≠ none) {q : Addr} (n : H1 q = none) : H q = none := by
  cases e : H q with
  | none => rfl
  | some o =>
    by_cases hw : W q
    · exact absurd n (al q hw)
    · rw [po.ext q o hw e] at n; cases n
theorem Post.free' {K : PySem.W.Frag} {O W : Addr → Prop} {σ : St} {H H1 : Hp} {ρ ρ1 : List B} (po : Post p K O W σ H H1 ρ ρ1) {q : Addr} (n : H1 q = none) : H q = none := po.free (fun a z => po.st.al a (po.st.sub a z)) n
theorem eo_lst {ar : AS} (ha : AV X E p false es ar) : EO X E p (.List es pos) (oLst ar) := by
  obtain ⟨ta, pa, ra⟩ := ha.ex
  refine ⟨_, pe_lst pa, fun O W σ H ρ Q s h => ?_⟩
  refine ra O W σ H ρ _ s (h.bind.mono (fun x hx vs H1 p1 r => ?_) fun _ _ z => z)
  have rr := reps_of r
  by_cases hl : x.1.length ≤ sizeLine
  · rw [if_pos hl] at hx
    exact ⟨by rw [rr.length]; exact hl, fun t nt => eo_end hx p1 t vs nt rr (p1.free' nt)⟩
  · rw [if_neg hl] at hx
    exact hx.elim
theorem ev_o {ar : AS} (h : EO X E p e ar) : EV X E p w e (eO ar) := by
  obtain ⟨t, pt, rt⟩ := h.ex
  refine ⟨_, pt, fun O W σ H ρ Q s h => ?_⟩
  refine rt O W σ H ρ _ s (h.bind.mono (fun x hx q vs H' hn po st hq r => ?_) fun _ _ z => z)
  exact hx _ H' po (.inl (.lst (.inl ⟨.inl hq, fun z => s.al q z hn⟩) (r.less fun a z => .inl z)))
end
end RT
namespace RT
open PySem PySem.Spec PyProof.Rows L2
inductive Fl where
  | nx (ρ : List B) | rt (d : D) (ρ : List B) | bk (ρ : List B) | ct (ρ : List B) | ex (c : Str) (x : D) | ro (ds : List D) (ρ : List B) | bad
structure Bs where
  args : List V
  O : Addr → Prop
  W : Addr → Prop
  H : Hp
structure SI (K : PySem.W.Frag) (b : Bs) (O W : Addr → Prop) (σ : St) (H : Hp) (ρ : List B) : Prop where
  st : StR K O W σ H ρ
  ext : Ext b.W b.H H
  bal : Al b.O b.H
  up : ∀ a, b.O a → O a
  bsub : ∀ a, b.W a → b.O a
  own : ∀ a, W a → b.W a ∨ b.H a = none
  loc : ∀ (i : Nat) (p : Addr), kindB ρ[i]? = some false → σ[i]? = some (some (.ref p)) → b.H p = none
  bor : ∀ (i : Nat), kindB ρ[i]? = some true → ∃ v, b.args[i]? = some v ∧ σ[i]? = some (some v)
structure Tr (O W : Addr → Prop) (H : Hp) (O' W' : Addr → Prop) (H' : Hp) : Prop where
  ext : Ext W H H'
  ow : ∀ a, O' a → O a ∨ H a = none
  ww : ∀ a, W' a → W a ∨ H a = none
theorem Tr.refl {O W : Addr → Prop} {H : Hp} : Tr O W H O W H := ⟨Ext.refl _ _, fun _ z => .inl z, fun _ z => .inl z⟩
theorem Tr.trans {O W O1 W1 O2 W2 : Addr → Prop} {H H1 H2 : Hp} (s : ∀ a, W a → O a) (a : Tr O W H O1 W1 H1) (b : Tr O1 W1 H1 O2 W2 H2) : Tr O W H O2 W2 H2 := by
  have ex : Ext W H H2 := fun c o w h => b.ext c o (fun z => (a.ww c z).elim w fun e => by rw [h] at e; cases e) (a.ext c o w h)
  have back : ∀ c, H1 c = none → O c ∨ H c = none := fun c n => by
    cases e : H c with
    | none => exact .inr rfl
    | some o =>
      by_cases w : W c
      · exact .inl (s c w)
      · rw [a.ext c o w e] at n; cases n
  have backW : ∀ c, H1 c = none → W c ∨ H c = none := fun c n => by
    cases e : H c with
    | none => exact .inr rfl
    | some o =>
      by_cases w : W c
      · exact .inl w
      · rw [a.ext c o w e] at n; cases n
  exact ⟨ex, fun c z => (b.ow c z).elim (a.ow c) (back c), fun c z => (b.ww c z).elim (a.ww c) (backW c)⟩
theorem Rep.tr {K : PySem.W.Frag} {O W O' W' : Addr → Prop} {H H' : Hp} {v : V} {d : D} (r : Rep K O H v d) (s : ∀ a, W a → O a) (t : Tr O W H O' W' H') : Rep K O' H' v d :=
  ((r.shun (O' := fun a => O a ∨ O' a) fun a z => z.elim .inl (t.ow a)).ext t.ext fun a z => .inl (s a z)).less fun a z => .inr z
theorem Reps.tr {K : PySem.W.Frag} {O W O' W' : Addr → Prop} {H H' : Hp} {v : List V} {d : List D} (r : Reps K O H v d) (s : ∀ a, W a → O a) (t : Tr O W H O' W' H') : Reps K O' H' v d :=
  ((r.shun (O' := fun a => O a ∨ O' a) fun a z => z.elim .inl (t.ow a)).ext t.ext fun a z => .inl (s a z)).less fun a z => .inr z
def FlOk (X : Cx) (E : XK) (b : Bs) (O W : Addr → Prop) (H : Hp) (De : Ends) : Fl → Prop
  | .nx ρ => ∀ O' W' σ' H', SI X.K b O' W' σ' H' ρ → Tr O W H O' W' H' → De.nx σ' H'
  | .rt d ρ => ∀ v O' W' σ' H', SI X.K b O' W' σ' H' ρ → Rep X.K O' H' v d → De.rt v H'
  | .bk ρ => ∀ O' W' σ' H', SI X.K b O' W' σ' H' ρ → Tr O W H O' W' H' → De.bk σ' H'
  | .ct ρ => ∀ O' W' σ' H', SI X.K b O' W' σ' H' ρ → Tr O W H O' W' H' → De.ct σ' H'
  | .ex c x => ∀ cls d H', Ext b.W b.H H' → ExcR X.K X.mg b.O H' c x cls d → E cls d H'
  | .ro ds ρ => ∀ q vs O' W' σ' H', SI X.K b O' W' σ' H' ρ → b.H q = none → H' q = some (.lst vs) → Reps X.K (fun a => O' a ∨ a = q) H' vs ds → De.rt (.ref q) H'
  | .bad => False
structure SS (X : Cx) (E : XK) (st : Stmt) (g : List B → Fl) : Prop where
  ex : ∃ t, PS X st t ∧ ∀ (b : Bs) (O W : Addr → Prop) (De : Ends) (σ : St) (H : Hp) (ρ : List B), SI X.K b O W σ H ρ → FlOk X E b O W H De (g ρ) → t De σ H
structure SSs (X : Cx) (E : XK) (st : List Stmt) (g : List B → Fl) : Prop where
  ex : ∃ t, PSs X st t ∧ ∀ (b : Bs) (O W : Addr → Prop) (De : Ends) (σ : St) (H : Hp) (ρ : List B), SI X.K b O W σ H ρ → FlOk X E b O W H De (g ρ) → t De σ H
section
variable {K : PySem.W.Frag} {b : Bs} {O W : Addr → Prop} {σ : St} {H H' : Hp} {ρ ρ' : List B} {p : Bool}
theorem SI.post (s : SI K b O W σ H ρ) (po : Post p K O W σ H H' ρ ρ') : SI K b O W σ H' ρ' where
  st := po.st
  ext := fun a o w h => po.ext a o (fun z => (s.own a z).elim w fun e => by rw [h] at e; cases e) (s.ext a o w h)
  bal := s.bal
  up := s.up
  bsub := s.bsub
  own := s.own
  loc := fun i q e1 e2 => s.loc i q (by rw [← po.kd i]; exact e1) e2
  bor := fun i e1 => s.bor i (by rw [← po.kd i]; exact e1)
theorem SI.tr (s : SI K b O W σ H ρ) (po : Post p K O W σ H H' ρ ρ') : Tr O W H O W H' := ⟨po.ext, fun _ z => .inl z, fun _ z => .inl z⟩
theorem SI.ex {X : Cx} {E : XK} {c : Str} {x : D} (s : SI X.K b O W σ H ρ) (h : ∀ cls d H', Ext b.W b.H H' → ExcR X.K X.mg b.O H' c x cls d → E cls d H') : EX X E O W H c x := fun cls d H' e r => by
  refine h cls d H' (fun a o w q => e a o (fun z => (s.own a z).elim w fun e => by rw [q] at e; cases e) (s.ext a o w q)) ?_
  obtain ⟨C, dd, v, h1, h2, h3, h4, h5⟩ := r
  exact ⟨C, dd, v, h1, h2, h3, h4, h5.less s.up⟩
end
theorem kind_set {ρ : List B} {i j : Nat} {x : B} : kindB (ρ.set i x)[j]? = if i = j ∧ i < ρ.length then kindB (some x) else kindB ρ[j]? := by
  rw [List.getElem?_set]
  by_cases h : i = j
  · by_cases h2 : i < ρ.length
    · rw [if_pos h, if_pos h2, if_pos ⟨h, h2⟩]
    · rw [if_pos h, if_neg h2, if_neg (fun z => h2 z.2)]
      have : ρ[j]? = none := List.getElem?_eq_none (by omega)
      rw [this]
  · rw [if_neg h, if_neg (fun z => h z.1)]
section
variable {K : PySem.W.Frag} {b : Bs} {O W : Addr → Prop} {σ : St} {H H' : Hp} {ρ ρ' : List B} {i : Nat}
theorem set_some {ρ : List B} {i j : Nat} {x y : B} (h : (ρ.set i x)[j]? = some y) : (i = j ∧ x = y) ∨ (i ≠ j ∧ ρ[j]? = some y) := by
  rw [List.getElem?_set] at h
  split at h
  · split at h
    · exact .inl ⟨by assumption, Option.some.inj h⟩
    · cases h
  · exact .inr ⟨by assumption, h⟩
theorem StR.put {v : V} {d : D} (s : StR K O W σ H ρ) (r : Rep K O H v d) : StR K O W (σ.set i (some v)) H (ρ.set i (.va d)) where
  len := by rw [List.length_set, List.length_set]; exact s.len
  slot := fun j c e => by
    rcases set_some e with ⟨e1, e2⟩ | ⟨e1, e2⟩
    · subst e1; subst e2
      have hj : i < σ.length := by
        have := (List.getElem?_eq_some_iff.mp e).1
        rw [List.length_set] at this
        rw [s.len]; exact this
      exact ⟨v, by rw [List.getElem?_set_self hj], r⟩
    · have q := s.slot j c e2
      rw [List.getElem?_set_ne e1]
      exact q
  apart := fun j k p h1 h2 h3 h4 => by
    have hs : ∀ l, isOw (ρ.set i (.va d))[l]? = true → isOw ρ[l]? = true ∧ i ≠ l := fun l h => by
      unfold isOw at h
      rw [kind_set] at h
      split at h
      · cases h
      · rename_i hh
        by_cases e : i = l
        · subst e
          have : ρ[i]? = none := List.getElem?_eq_none (by omega)
          rw [this] at h; cases h
        · exact ⟨h, e⟩
    obtain ⟨a1, n1⟩ := hs j h1
    obtain ⟨a2, n2⟩ := hs k h2
    rw [List.getElem?_set_ne n1] at h3
    rw [List.getElem?_set_ne n2] at h4
    exact s.apart j k p a1 a2 h3 h4
  sub := s.sub
  al := s.al
theorem SI.put {v : V} {d : D} (s : SI K b O W σ H ρ) (r : Rep K O H v d) : SI K b O W (σ.set i (some v)) H (ρ.set i (.va d)) where
  st := s.st.put r
  ext := s.ext
  bal := s.bal
  up := s.up
  bsub := s.bsub
  own := s.own
  loc := fun j p h1 h2 => by
    rw [kind_set] at h1
    split at h1
    · cases h1
    · rename_i hh
      by_cases e : i = j
      · subst e
        have : ρ[i]? = none := List.getElem?_eq_none (by omega)
        rw [this] at h1; cases h1
      · rw [List.getElem?_set_ne e] at h2
        exact s.loc j p h1 h2
  bor := fun j h1 => by
    rw [kind_set] at h1
    split at h1
    · cases h1
    · rename_i hh
      by_cases e : i = j
      · subst e
        have : ρ[i]? = none := List.getElem?_eq_none (by omega)
        rw [this] at h1; cases h1
      · rw [List.getElem?_set_ne e]
        exact s.bor j h1
end
theorem FlOk.on {X : Cx} {E : XK} {b : Bs} {O W O' W' : Addr → Prop} {H H' : Hp} {De : Ends} {f : Fl} (h : FlOk X E b O W H De f) (s : ∀ a, W a → O a) (t : Tr O W H O' W' H') : FlOk X E b O' W' H' De f := by
  cases f with
  | nx ρ => exact fun O2 W2 σ2 H2 si t2 => h O2 W2 σ2 H2 si (t.trans s t2)
  | rt d ρ => exact h
  | bk ρ => exact fun O2 W2 σ2 H2 si t2 => h O2 W2 σ2 H2 si (t.trans s t2)
  | ct ρ => exact fun O2 W2 σ2 H2 si t2 => h O2 W2 σ2 H2 si (t.trans s t2)
  | ex c x => exact h
  | ro ds ρ => exact h
  | bad => exact h
def fzB (i : Nat) (ρ : List B) : List B := match ρ[i]? with
  | some (.ow false ds) => ρ.set i (.va (.lst ds))
  | _ => ρ
def sFz (i : Nat) (g : List B → Fl) : List B → Fl := fun ρ => g (fzB i ρ)
section
variable {K : PySem.W.Frag} {b : Bs} {O W : Addr → Prop} {σ : St} {H H' : Hp} {ρ ρ' : List B} {i : Nat}
theorem SI.fz (s : SI K b O W σ H ρ) : ∃ O' W', SI K b O' W' σ H (fzB i ρ) ∧ Tr O W H O' W' H := by
  unfold fzB
  cases e : ρ[i]? with
  | none => exact ⟨O, W, s, Tr.refl⟩
  | some c =>
    cases c with
    | un => exact ⟨O, W, s, Tr.refl⟩
    | va d => exact ⟨O, W, s, Tr.refl⟩
    | ow k ds =>
      cases k with
      | true => exact ⟨O, W, s, Tr.refl⟩
      | false =>
        obtain ⟨p, vs, h1, h2, h3, h4⟩ := s.st.slot i _ e
        have hi : i < ρ.length := (List.getElem?_eq_some_iff.mp e).1
        have bp : b.H p = none := s.loc i p (by rw [e]; rfl) h1
        have nb : ¬ b.O p := fun z => s.bal p z bp
        have hs : ∀ l, isOw (ρ.set i (.va (.lst ds)))[l]? = true → isOw ρ[l]? = true ∧ i ≠ l := fun l h => by
          unfold isOw at h
          rw [kind_set] at h
          split at h
          · cases h
          · rename_i hh
            by_cases e : i = l
            · exact absurd ⟨e, hi⟩ hh
            · exact ⟨h, e⟩
        refine ⟨fun a => O a ∧ a ≠ p, fun a => W a ∧ a ≠ p, ⟨⟨?_, fun j c ec => ?_, fun j k q g1 g2 g3 g4 => ?_, fun a z => ⟨s.st.sub a z.1, z.2⟩, fun a z => s.st.al a z.1⟩, s.ext, s.bal, fun a z => ⟨s.up a z, fun e => nb (e ▸ z)⟩, s.bsub, fun a z => s.own a z.1, fun j q g1 g2 => ?_, fun j g1 => ?_⟩, Ext.refl _ _, fun a z => .inl z.1, fun a z => .inl z.1⟩
        · rw [List.length_set]; exact s.st.len
        · rcases set_some ec with ⟨e1, e2⟩ | ⟨e1, e2⟩
          · subst e1; subst e2
            exact ⟨.ref p, h1, .lst (.inl ⟨.inl h3, fun z => z.2 rfl⟩) (h4.less fun a z => z.1)⟩
          · have q := s.st.slot j c e2
            cases c with
            | un => exact trivial
            | va d =>
              obtain ⟨v, g1, g2⟩ := q
              exact ⟨v, g1, g2.less fun a z => z.1⟩
            | ow k ds' =>
              obtain ⟨p', vs', g1, g2, g3, g4⟩ := q
              refine ⟨p', vs', g1, ⟨g2, fun z => ?_⟩, g3, g4.less fun a z => z.1⟩
              subst z
              exact e1 (s.st.apart i j p' (by rw [e]; rfl) (by rw [e2]; rfl) h1 g1)
        · exact s.st.apart j k q (hs j g1).1 (hs k g2).1 g3 g4
        · rw [kind_set] at g1
          split at g1
          · cases g1
          · exact s.loc j q g1 g2
        · rw [kind_set] at g1
          split at g1
          · cases g1
          · exact s.bor j g1
end
section
variable {X : Cx} {E : XK} {p q w : Bool} {st : Stmt} {rest : List Stmt} {g g2 : List B → Fl} {e a c : Expr} {fe : ES} {be : BS} {ar : AS} {pos pos' : Pos}
theorem ss_fz (i : Nat) (h : SS X E st g) : SS X E st (sFz i g) := by
  obtain ⟨t, pt, rt⟩ := h.ex
  refine ⟨t, pt, fun b O W De σ H ρ s h => ?_⟩
  obtain ⟨O', W', s', t'⟩ := s.fz (i := i)
  exact rt b O' W' De σ H _ s' (FlOk.on h s.st.sub t')
theorem sss_fz (i : Nat) {sts : List Stmt} (h : SSs X E sts g) : SSs X E sts (sFz i g) := by
  obtain ⟨t, pt, rt⟩ := h.ex
  refine ⟨t, pt, fun b O W De σ H ρ s h => ?_⟩
  obtain ⟨O', W', s', t'⟩ := s.fz (i := i)
  exact rt b O' W' De σ H _ s' (FlOk.on h s.st.sub t')
def sNx : List B → Fl := fun ρ => .nx ρ
def sSeq (g1 g2 : List B → Fl) : List B → Fl := fun ρ => match g1 ρ with
  | .nx ρ1 => g2 ρ1
  | f => f
def sRs {α : Type} (r : Rs α) (k : α → Fl) : Fl := match r with
  | .ok a => k a
  | .exc c x => .ex c x
  | .bad => .bad
def sDo (f : ES) : List B → Fl := fun ρ => sRs (f ρ) fun x => .nx x.2
def sRet (f : ES) : List B → Fl := fun ρ => sRs (f ρ) fun x => .rt x.1 x.2
def sIf (c : BS) (a b : List B → Fl) : List B → Fl := fun ρ => sRs (c ρ) fun x => match x.1 with
  | true => a x.2
  | false => b x.2
def sSet (i : Nat) (f : ES) : List B → Fl := fun ρ => sRs (f ρ) fun x => .nx (x.2.set i (.va x.1))
def sSetO (i : Nat) (f : AS) : List B → Fl := fun ρ => sRs (f ρ) fun x => .nx (x.2.set i (.ow false x.1))
theorem FlOk.rs {α : Type} {b : Bs} {O W : Addr → Prop} {σ : St} {H : Hp} {ρ : List B} {De : Ends} {r : Rs α} {k : α → Fl} (s : SI X.K b O W σ H ρ) (h : FlOk X E b O W H De (sRs r k)) : Wr r (fun a => FlOk X E b O W H De (k a)) (EX X E O W H) := by
  cases r with
  | ok a => exact h
  | exc c x => exact s.ex h
  | bad => exact h
theorem sss_nil : SSs X E [] sNx := ⟨_, pss_nil, fun b O W De σ H ρ s h => h O W σ H s Tr.refl⟩
theorem seq_ok {b : Bs} {O W : Addr → Prop} {H : Hp} {De : Ends} {t2 : TS} {f : Fl} (h : FlOk X E b O W H De (match f with | .nx ρ1 => g2 ρ1 | f => f)) (hs : ∀ a, W a → O a)
    (r2 : ∀ (b : Bs) (O W : Addr → Prop) (De : Ends) (σ : St) (H : Hp) (ρ : List B), SI X.K b O W σ H ρ → FlOk X E b O W H De (g2 ρ) → t2 De σ H) : FlOk X E b O W H { De with nx := t2 De } f := by
  cases f with
  | nx ρ1 => exact fun O' W' σ' H' s' t' => r2 b O' W' De σ' H' ρ1 s' (FlOk.on h hs t')
  | rt d ρ => exact h
  | bk ρ => exact h
  | ct ρ => exact h
  | ex c x => exact h
  | ro ds ρ => exact h
  | bad => exact h
theorem sss_cons (h1 : SS X E st g) (h2 : SSs X E rest g2) : SSs X E (st :: rest) (sSeq g g2) := by
  obtain ⟨t1, p1, r1⟩ := h1.ex
  obtain ⟨t2, p2, r2⟩ := h2.ex
  exact ⟨_, pss_cons p1 p2, fun b O W De σ H ρ s h => r1 b O W _ σ H ρ s (seq_ok h s.st.sub r2)⟩
theorem sss_one (h1 : SS X E st g) : SSs X E [st] g := by
  obtain ⟨t1, p1, r1⟩ := h1.ex
  exact ⟨_, pss_one p1, r1⟩
theorem ss_pass : SS X E (.Pass pos) sNx := ⟨_, ps_pass, fun b O W De σ H ρ s h => h O W σ H s Tr.refl⟩
theorem ss_brk : SS X E (.Break pos) (fun ρ => .bk ρ) := ⟨_, ps_break, fun b O W De σ H ρ s h => h O W σ H s Tr.refl⟩
theorem ss_cont : SS X E (.Continue pos) (fun ρ => .ct ρ) := ⟨_, ps_continue, fun b O W De σ H ρ s h => h O W σ H s Tr.refl⟩
theorem ss_never : SS X E st (fun _ => .bad) := ⟨_, ps_never, fun b O W De σ H ρ s h => h⟩
theorem ss_ret (h : EV X E p false e fe) : SS X E (.Return (some e) pos) (sRet fe) := by
  obtain ⟨t, pt, rt⟩ := h.ex
  refine ⟨_, ps_ret pt, fun b O W De σ H ρ s h => ?_⟩
  exact rt O W σ H ρ _ s.st ((FlOk.rs s h).mono (fun x hx v H' po r => hx v O W σ H' (s.post po) r.strict) fun _ _ z => z)
def sRetO (f : AS) : List B → Fl := fun ρ => sRs (f ρ) fun x => .ro x.1 x.2
theorem ss_retO (h : EO X E p e ar) : SS X E (.Return (some e) pos) (sRetO ar) := by
  obtain ⟨t, pt, rt⟩ := h.ex
  refine ⟨_, ps_ret pt, fun b O W De σ H ρ s h => ?_⟩
  refine rt O W σ H ρ _ s.st ((FlOk.rs s h).mono (fun x hx q vs H' n po st hq r => ?_) fun _ _ z => z)
  have bn : b.H q = none := by
    cases e : b.H q with
    | none => rfl
    | some o =>
      by_cases w : b.W q
      · exact absurd n (s.st.al _ (s.up _ (s.bsub _ w)))
      · have := s.ext q o w e
        rw [n] at this; cases this
  exact hx q vs O W σ H' (s.post po) bn hq r
theorem ss_retN : SS X E (.Return none pos) (fun ρ => .rt .non ρ) := ⟨_, ps_retN, fun b O W De σ H ρ s h => h .non O W σ H s .non⟩
theorem ss_do (h : EV X E p w e fe) (hs : swapsWith e none pos.line X.env = pure false := by rfl) : SS X E (.Expr e pos) (sDo fe) := by
  obtain ⟨t, pt, rt⟩ := h.ex
  refine ⟨_, ps_expr pt hs, fun b O W De σ H ρ s h => ?_⟩
  exact rt O W σ H ρ _ s.st ((FlOk.rs s h).mono (fun x hx v H' po r => hx O W σ H' (s.post po) (s.tr po)) fun _ _ z => z)
theorem ss_if {as bs : List Stmt} (hc : TV X E p c be) (ha : SSs X E as g) (hb : SSs X E bs g2) : SS X E (.If c as bs pos) (sIf be g g2) := by
  obtain ⟨tc, pc, rc⟩ := hc.ex
  obtain ⟨ta, pa, ra⟩ := ha.ex
  obtain ⟨tb, pb, rb⟩ := hb.ex
  refine ⟨_, ps_if pc pa pb, fun b O W De σ H ρ s h => ?_⟩
  refine rc O W σ H ρ _ s.st ((FlOk.rs s h).mono (fun x hx H1 po => ?_) fun _ _ z => z)
  obtain ⟨k, ρ1⟩ := x
  cases k with
  | true => exact iteT (ra b O W De σ H1 ρ1 (s.post po) (FlOk.on hx s.st.sub (s.tr po)))
  | false => exact iteF (rb b O W De σ H1 ρ1 (s.post po) (FlOk.on hx s.st.sub (s.tr po)))
theorem ss_set (i : Nat) {x : Str} (h : EV X E p false e fe) (hN : X.N.Nodup) (hi : X.N[i]? = some x := by rfl) (hx : Loc X.env.scope x := by first | exact Or.inl rfl | exact Or.inr rfl) (hs : swapsWith e (some (.Name x pos')) pos.line X.env = pure false := by rfl)
    (hf : X.fn x = true ∨ X.env.scope.names.lookup x = some .local := by first | exact .inl rfl | exact .inr rfl) : SS X E (.Assign [.Name x pos'] e pos) (sSet i fe) := by
  obtain ⟨t, pt, rt⟩ := h.ex
  refine ⟨_, ps_set hN hi hx pt hs hf, fun b O W De σ H ρ s h => ?_⟩
  exact rt O W σ H ρ _ s.st ((FlOk.rs s h).mono (fun x hx v H' po r => hx O W _ H' ((s.post po).put r.strict) (s.tr po)) fun _ _ z => z)
theorem SI.putO {K : PySem.W.Frag} {b : Bs} {O W : Addr → Prop} {σ : St} {H H' : Hp} {ρ ρ' : List B} {i : Nat} {q' : Addr} {vs : List V} {ds : List D} (s : SI K b O W σ H ρ) (n : H q' = none) (po : Post p K O W σ H H' ρ ρ')
    (st : StR K (fun a => O a ∨ a = q') (fun a => W a ∨ a = q') σ H' ρ') (hq : H' q' = some (.lst vs)) (r : Reps K (fun a => O a ∨ a = q') H' vs ds) :
    SI K b (fun a => O a ∨ a = q') (fun a => W a ∨ a = q') (σ.set i (some (.ref q'))) H' (ρ'.set i (.ow false ds)) ∧ Tr O W H (fun a => O a ∨ a = q') (fun a => W a ∨ a = q') H' := by
  have sp := s.post po
  have bn : b.H q' = none ∨ b.W q' := by
    cases e : b.H q' with
    | none => exact .inl rfl
    | some o =>
      by_cases w : b.W q'
      · exact .inr w
      · have := s.ext q' o w e
        rw [n] at this; cases this
  have hlt : ∀ {j : Nat} {c : B}, (ρ'.set i (.ow false ds))[j]? = some c → j < σ.length := fun {j c} e => by
    have := (List.getElem?_eq_some_iff.mp e).1
    rw [List.length_set] at this
    rw [st.len]; exact this
  have oth : ∀ {j : Nat}, i ≠ j → isOw ρ'[j]? = true → σ[j]? ≠ some (some (.ref q')) := fun {j} hj ho z => by
    have k1 : kindB ρ'[j]? = kindB ρ[j]? := po.kd j
    cases ej : ρ[j]? with
    | none => rw [isOw, k1, ej] at ho; cases ho
    | some c =>
      cases c with
      | un => rw [isOw, k1, ej] at ho; cases ho
      | va d => rw [isOw, k1, ej] at ho; cases ho
      | ow k es =>
        obtain ⟨p', vs', h1, h2, h3, h4⟩ := s.st.slot j _ ej
        rw [z] at h1
        cases h1
        rw [n] at h3; cases h3
  have ow' : ∀ {j : Nat}, isOw (ρ'.set i (.ow false ds))[j]? = true → (i = j ∧ i < ρ'.length) ∨ (i ≠ j ∧ isOw ρ'[j]? = true) := fun {j} h => by
    unfold isOw at h
    rw [kind_set] at h
    split at h
    · exact .inl (by assumption)
    · rename_i hh
      by_cases e : i = j
      · subst e
        have : ρ'[i]? = none := List.getElem?_eq_none (by omega)
        rw [this] at h; cases h
      · exact .inr ⟨e, h⟩
  refine ⟨⟨⟨?_, fun j c e => ?_, fun j k a h1 h2 h3 h4 => ?_, st.sub, st.al⟩, sp.ext, s.bal, fun a z => .inl (s.up a z), s.bsub, fun a z => ?_, fun j a h1 h2 => ?_, fun j h1 => ?_⟩, po.ext, fun a z => z.elim .inl fun e => .inr (by rw [e]; exact n), fun a z => z.elim .inl fun e => .inr (by rw [e]; exact n)⟩
  · rw [List.length_set, List.length_set]; exact st.len
  · have hj := hlt e
    rcases set_some e with ⟨e1, e2⟩ | ⟨e1, e2⟩
    · subst e1; subst e2
      exact ⟨q', vs, by rw [List.getElem?_set_self hj], .inr rfl, hq, r⟩
    · have h := st.slot j c e2
      rw [List.getElem?_set_ne e1]
      exact h
  · rcases ow' h1 with ⟨a1, l1⟩ | ⟨a1, o1⟩ <;> rcases ow' h2 with ⟨a2, l2⟩ | ⟨a2, o2⟩
    · rw [← a1, ← a2]
    · subst a1
      have hl : i < σ.length := by rw [st.len]; exact l1
      rw [List.getElem?_set_self hl] at h3
      rw [List.getElem?_set_ne a2] at h4
      cases h3
      exact absurd h4 (oth a2 o2)
    · subst a2
      have hl : i < σ.length := by rw [st.len]; exact l2
      rw [List.getElem?_set_self hl] at h4
      rw [List.getElem?_set_ne a1] at h3
      cases h4
      exact absurd h3 (oth a1 o1)
    · rw [List.getElem?_set_ne a1] at h3
      rw [List.getElem?_set_ne a2] at h4
      exact st.apart j k a o1 o2 h3 h4
  · rcases z with z | z
    · exact s.own a z
    · rw [z]; exact bn.symm
  · rw [kind_set] at h1
    split at h1
    · rename_i hh
      obtain ⟨e1, l1⟩ := hh
      subst e1
      rw [List.getElem?_set_self (by rw [st.len]; exact l1)] at h2
      cases h2
      rcases bn with z | z
      · exact z
      · exact absurd n (s.st.al _ (s.up _ (s.bsub _ z)))
    · rename_i hh
      by_cases e : i = j
      · subst e
        have : ρ'[i]? = none := List.getElem?_eq_none (by omega)
        rw [this] at h1; cases h1
      · rw [List.getElem?_set_ne e] at h2
        exact sp.loc j a h1 h2
  · rw [kind_set] at h1
    split at h1
    · cases h1
    · rename_i hh
      by_cases e : i = j
      · subst e
        have : ρ'[i]? = none := List.getElem?_eq_none (by omega)
        rw [this] at h1; cases h1
      · rw [List.getElem?_set_ne e]
        exact sp.bor j h1
end
end RT
namespace RT
open PySem PySem.Spec PyProof.Rows L2
def SqB (K : PySem.W.Frag) (H : Hp) : Bool → Addr → List V → Prop
  | true, a, xs => SqL K H a xs
  | false, a, xs => SqT K H a xs
def ItB (h : Heap) : Bool → Addr → Addr → Nat → Prop
  | true, it, a, i => h.IsListIter it a i
  | false, it, a, i => h.IsTupleIter it a i
def ArB (h : Heap) : Bool → Addr → Array Value → Prop
  | true, a, xs => h.IsList a xs
  | false, a, xs => h.IsTuple a xs
def itO (b : Bool) (a : Addr) : Obj := match b with
  | true => { cls := .type "list_iterator", data := .fields #[.ref a, .int 0 0] }
  | false => { cls := .type "tuple_iterator", data := .fields #[.ref a, .int 0 0] }
section
variable {X : Cx} {pins : List (Addr × Obj)} {σ : St} {H : Hp} {s : Shared} {b : Bool} {a it : Addr} {xs ys : List V} {i : Nat} {h h' : Heap}
theorem arB_of (I : Inv X pins σ H s) (q : SqB X.K H b a xs) : ∃ its : List Value, Vals xs its ∧ ArB s.heap b a its.toArray ∧ a < s.heap.objs.size := by
  cases b with
  | true =>
    obtain ⟨its, rv, p, _⟩ := I.list q
    exact ⟨its, rv, p.isList, p.lt⟩
  | false =>
    obtain ⟨its, rv, p, _⟩ := I.tuple q
    exact ⟨its, rv, (show s.heap.IsTuple a its.toArray from p), p.lt⟩
theorem sqB_inj (I : Inv X pins σ H s) (q : SqB X.K H b a xs) (q' : SqB X.K H b a ys) : xs = ys := by
  cases b with
  | true => exact I.list_inj q q'
  | false => exact I.tuple_inj q q'
theorem itB_lt (q : ItB h b it a i) : it < h.objs.size := by
  cases b with
  | true => obtain ⟨_, e, _⟩ := q; exact Heap.lt_size e
  | false => obtain ⟨_, e, _⟩ := q; exact Heap.lt_size e
theorem itB_obj (q : ItB h b it a i) : ∃ o, h.get? it = some o ∧ ∀ v, o.data ≠ .cell v := by
  cases b with
  | true => obtain ⟨o, e, _, d⟩ := q; exact ⟨o, e, fun v z => by rw [d] at z; cases z⟩
  | false => obtain ⟨o, e, _, d⟩ := q; exact ⟨o, e, fun v z => by rw [d] at z; cases z⟩
theorem itB_at (q : ItB h b it a i) (k : ∀ o, h.get? it = some o → h'.get? it = some o) : ItB h' b it a i := by
  cases b with
  | true => exact Heap.IsListIter.at q k
  | false => exact Heap.IsTupleIter.at q k
theorem drawsB {prog : Program} {w : World} {A : Around} (hh : A.handled = none) (b : Bool) (it a : Addr) (hne : a ≠ it) (items : Array Value) :
    Draws prog w A it [it, a] items.size (fun i v => items[i]? = some v) (fun i h => ItB h b it a i ∧ ArB h b a items) := by
  cases b with
  | true => exact Draws.list hh it a hne items
  | false => exact Draws.tuple hh it a hne items
theorem beginsB (b : Bool) (a : Addr) (items : Array Value) : Begins (.ref a) (itO b a) fun h => ArB h b a items := by
  cases b with
  | true => exact begins_list a items
  | false => exact begins_tuple a items
theorem itB_new (e : h.get? it = some (itO b a)) : ItB h b it a 0 := by
  cases b with
  | true => exact ⟨_, e, rfl, rfl⟩
  | false => exact ⟨_, e, rfl, rfl⟩
end
def Iz2 (K : PySem.W.Frag) (b1 b2 : Bool) (a c : Addr) : It :=
  ⟨fun i H => ∃ (xs ys : List V) (x y : V), SqB K H b1 a xs ∧ SqB K H b2 c ys ∧ xs[i]? = some x ∧ ys[i]? = some y,
    fun i H v H' => ∃ T x y, v = .ref T ∧ H T = none ∧ H' = upd H T (.tup [x, y]) ∧ (∀ xs, SqB K H b1 a xs → xs[i]? = some x) ∧ ∀ ys, SqB K H b2 c ys → ys[i]? = some y,
    fun i H => ∃ xs ys : List V, SqB K H b1 a xs ∧ SqB K H b2 c ys ∧ i ≤ xs.length ∧ i ≤ ys.length ∧ (i = xs.length ∨ i = ys.length)⟩
theorem sep_of {z TI TO i1 i2 a c : Addr} (D : ZipApart z TI TO i1 i2 a c) (h1 : a ≠ i2) (h2 : c ≠ i1) : ZipSep2 z TI TO i1 i2 [i1, a] [i2, c] := by
  constructor
  · exact D.TIz
  · exact D.TOz
  · exact D.TITO
  · exact D.TIi1
  · simp
  · simp only [List.mem_cons, List.not_mem_nil, or_false, not_or]; exact ⟨D.i1z.symm, D.l1z.symm⟩
  · simp only [List.mem_cons, List.not_mem_nil, or_false, not_or]; exact ⟨D.TOi1, D.l1TO.symm⟩
  · exact D.TIi2
  · simp
  · simp only [List.mem_cons, List.not_mem_nil, or_false, not_or]; exact ⟨D.i2z.symm, D.l2z.symm⟩
  · simp only [List.mem_cons, List.not_mem_nil, or_false, not_or]; exact ⟨D.TOi2, D.l2TO.symm⟩
  · simp only [List.mem_cons, List.not_mem_nil, or_false, not_or]; exact ⟨D.i12, h2.symm⟩
  · simp only [List.mem_cons, List.not_mem_nil, or_false, not_or]; exact ⟨D.i12.symm, h1.symm⟩
theorem turn_z2 {P : Program} {w : World} {K : PySem.W.Frag} {elts : List Expr} {kk : Nat} {tpos : Pos} {b1 b2 : Bool} {a c z TI TO i1 i2 : Addr} (D : ZipApart z TI TO i1 i2 a c) :
    Turn P w K (.Tuple elts kk tpos) (Iz2 K b1 b2 a c) [z, TI, TO, i1, i2] z (fun i h => IsZip h z TI TO .none ∧ IsTupOf2 h TI (.ref i1) (.ref i2) ∧ (∃ x y, IsTupOf2 h TO x y) ∧ ItB h b1 i1 a i ∧ ItB h b2 i2 c i) where
  mem := by simp
  obj := fun i h st c hc => by
    obtain ⟨hz, hTI, ⟨x, y, hTO⟩, h1, h2⟩ := st
    have e' : c = z ∨ c = TI ∨ c = TO ∨ c = i1 ∨ c = i2 := by simpa using hc
    rcases e' with q | q | q | q | q
    · rw [q]; exact ⟨_, hz, fun v q => nomatch q⟩
    · rw [q]; exact ⟨_, hTI, fun v q => nomatch q⟩
    · rw [q]; exact ⟨_, hTO, fun v q => nomatch q⟩
    · rw [q]; exact itB_obj h1
    · rw [q]; exact itB_obj h2
  keep := fun i h h' st k => by
    obtain ⟨hz, hTI, ⟨x, y, hTO⟩, h1, h2⟩ := st
    exact ⟨k z (by simp) _ hz, k TI (by simp) _ hTI, ⟨x, y, k TO (by simp) _ hTO⟩, itB_at h1 fun o q => k i1 (by simp) o q, itB_at h2 fun o q => k i2 (by simp) o q⟩
  item := by
    intro X hP hw hK hc i pins s σ H E I hf st hg
    subst hP hw hK
    obtain ⟨hz, hTI, ⟨x0, y0, hTO⟩, h1, h2⟩ := st
    obtain ⟨xs, ys, x, y, hqx, hqy, hx, hy⟩ := hg
    obtain ⟨its, rv, p, _⟩ := arB_of I hqx
    obtain ⟨its2, rv2, p2, _⟩ := arB_of I hqy
    obtain ⟨u, hu, ru⟩ := rv.get hx
    obtain ⟨u2, hu2, ru2⟩ := rv2.get hy
    have hzl : z < s.heap.objs.size := Heap.lt_size hz
    have hh := I.ok.hd hc
    refine wpAny_pyNext_zipD2_item (sep_of D D.l1i2 D.l2i1) (drawsB (prog := X.prog) (w := X.w) (A := X.A.in1) hh b1 i1 a D.l1i1 its.toArray) (drawsB (prog := X.prog) (w := X.w) (A := X.A.in1) hh b2 i2 c D.l2i2 its2.toArray) hz hTI hTO ⟨h1, p⟩ ⟨h2, p2⟩ ?_ ?_ fun x1 x2 h' tk e1 e2 z' TO' st1' st2' hT hsz hk => ?_
    · have := (List.getElem?_eq_some_iff.mp hu).1; simpa using this
    · have := (List.getElem?_eq_some_iff.mp hu2).1; simpa using this
    have q1 : x1 = u := by have e1 : its.toArray[i]? = some x1 := e1; simp only [List.getElem?_toArray] at e1; rw [hu] at e1; exact (Option.some.inj e1).symm
    have q2 : x2 = u2 := by have e2 : its2.toArray[i]? = some x2 := e2; simp only [List.getElem?_toArray] at e2; rw [hu2] at e2; exact (Option.some.inj e2).symm
    subst q1 q2
    refine ⟨_, rfl, wpAny_letOwnedTupleGo_zip (s := { s with heap := h', toks := tk }) z' fun h'' z'' sb => ?_⟩
    have hT2 : h''.get? s.heap.objs.size = some { cls := .type "tuple", data := .seq #[x1, x2] } := (sb.2 _ (Nat.ne_of_gt hzl)).trans hT
    have new : ObjOk X.prog X.w (upd H s.heap.objs.size (.tup [x, y])) h'' s.heap.objs.size (.tup [x, y]) :=
      ⟨by show 2 ≤ sizeLine; decide, [x1, x2], .cons ru (.cons ru2 .nil), ⟨_, hT2, rfl, _, rfl⟩⟩
    have I1 : Inv X pins σ (upd H s.heap.objs.size (.tup [x, y])) { s with heap := h'', toks := tk } :=
      I.turnedNew (t' := tk) (ch := [z, TI, TO, i1, i2]) (fun c o hb q => (sb.2 c (fun q' => hb (by simp [q']))).trans (hk c o (fun q' => hb (by simp [q'])) (fun q' => hb (by simp [q'])) (fun q' => hb (by simp [q'])) (fun q' => hb (by simp [q'])) q)) hf (Nat.le_refl _) new
    refine ⟨.ref s.heap.objs.size, _, I1, rfl, ⟨_, x, y, rfl, I.hok.fresh (Nat.le_refl _), rfl, fun l hl => by rw [sqB_inj I hl hqx]; exact hx, fun l hl => by rw [sqB_inj I hl hqy]; exact hy⟩, ⟨z'', ?_, ⟨x1, x2, ?_⟩, ?_, ?_⟩, fun c hcm => ?_⟩
    · exact (sb.2 _ D.TIz).trans (hk _ _ D.TIz D.TITO D.TIi1 D.TIi2 hTI)
    · exact (sb.2 _ D.TOz).trans TO'
    · exact itB_at st1'.1 fun o q => (sb.2 _ D.i1z).trans q
    · exact itB_at st2'.1 fun o q => (sb.2 _ D.i2z).trans q
    · have hlt : c < s.heap.objs.size := by
        have e' : c = z ∨ c = TI ∨ c = TO ∨ c = i1 ∨ c = i2 := by simpa using hcm
        rcases e' with q | q | q | q | q
        · rw [q]; exact hzl
        · rw [q]; exact Heap.lt_size hTI
        · rw [q]; exact Heap.lt_size hTO
        · rw [q]; exact itB_lt h1
        · rw [q]; exact itB_lt h2
      rw [upd_ne (Nat.ne_of_lt hlt)]
      exact (hf c hcm).1
  done := by
    intro X hP hw hK hc i pins s σ H E I hf st hg
    subst hP hw hK
    obtain ⟨hz, hTI, ⟨x0, y0, hTO⟩, h1, h2⟩ := st
    obtain ⟨xs, ys, hqx, hqy, hl1, hl2, hend⟩ := hg
    obtain ⟨its, rv, p, _⟩ := arB_of I hqx
    obtain ⟨its2, rv2, p2, _⟩ := arB_of I hqy
    have l1 := rv.length
    have l2 := rv2.length
    have hh := I.ok.hd hc
    exact wpAny_pyNext_zipD2_end (i := i) (sep_of D D.l1i2 D.l2i1) (drawsB (prog := X.prog) (w := X.w) (A := X.A.in1) hh b1 i1 a D.l1i1 its.toArray) (drawsB (prog := X.prog) (w := X.w) (A := X.A.in1) hh b2 i2 c D.l2i2 its2.toArray) hz hTI hTO ⟨h1, p⟩ ⟨h2, p2⟩ (by simp; omega) (by simp; omega) (by simp; omega) fun h' tk hk => ⟨rfl, I.turnedL (t' := tk) (ch := [z, TI, TO, i1, i2]) (fun c o hb q =>
      hk c o (fun q' => hb (by simp [q'])) (fun q' => hb (by simp [q'])) (fun q' => hb (by simp [q'])) (fun q' => hb (by simp [q'])) q) hf⟩
  self := fun A i s Q E st h => wpAny_pyIter_zip st.1 h
def iZ2 (K : PySem.W.Frag) (ta : TA) : TI := fun σ H R => ta σ H fun vs H1 => ∃ b1 b2 a c xs ys, vs = [.ref a, .ref c] ∧ SqB K H1 b1 a xs ∧ SqB K H1 b2 c ys ∧ R (Iz2 K b1 b2 a c) H1
theorem pi_z2 {X : Cx} {e e2 : Expr} {ta : TA} {p pos tpos : Pos} {elts : List Expr} {kk : Nat} (hg : Gl X "zip") (hm : X.mg "zip" = none) (ha : PA X [e, e2] ta)
    (hs : starEach [e, e2] X.env = (false, eval e X.env) :: starEach [e2] X.env := by rfl) (hpl : (backTo pos (starEach [e2] X.env)).any (·.1) = false := by rfl) :
    PI X (.Tuple elts kk tpos) (.Call (.Name "zip" p) [e, e2] [] pos) (iZ2 X.K ta) := by
  refine ⟨fun pins s σ H R I h => ?_⟩
  refine Call_ (ld_blt I hg hm PyProof.Rows.boot_zip (PyProof.Rows.callWith_type1 (thn (ha.run pos pins s σ H _ I h) fun us s1 ⟨vs, H1, I1, r1, q1⟩ => ?_) hs hpl))
  obtain ⟨b1, b2, a, b, xs, ys, ex, hqx, hqy, q⟩ := q1
  subst ex
  cases r1 with
  | cons r rr =>
    cases rr with
    | cons r' rr =>
      cases rr
      cases r
      cases r'
      obtain ⟨its, rv, p1, la⟩ := arB_of I1 hqx
      obtain ⟨its2, rv2, p2, lb⟩ := arB_of I1 hqy
      refine zip_begins2 (beginsB b1 a its.toArray) (beginsB b2 b its2.toArray) p1 p2 fun h' hz hTI hTO h1 h2 hsz hk => wpAny_pyIter_zip hz ?_
      have I2 : Inv X pins σ H1 { s1 with heap := h' } := I1.kept (t' := s1.toks) hk
      refine ⟨s1.heap.objs.size + 4, [s1.heap.objs.size + 4, s1.heap.objs.size + 2, s1.heap.objs.size + 3, s1.heap.objs.size, s1.heap.objs.size + 1], _, _, H1, rfl, I2, turn_z2 (PySem.W.ktu_apart s1.heap.objs.size a b la lb), ⟨hz, hTI, ⟨_, _, hTO⟩, itB_new h1, itB_new h2⟩, fun c hcm => ?_, q⟩
      have e' : c = s1.heap.objs.size + 4 ∨ c = s1.heap.objs.size + 2 ∨ c = s1.heap.objs.size + 3 ∨ c = s1.heap.objs.size ∨ c = s1.heap.objs.size + 1 := by simpa using hcm
      have hle : s1.heap.objs.size ≤ c := by
        rcases e' with z | z | z | z | z
        · rw [z]; exact Nat.le_add_right _ _
        · rw [z]; exact Nat.le_add_right _ _
        · rw [z]; exact Nat.le_add_right _ _
        · rw [z]; exact Nat.le_refl _
        · rw [z]; exact Nat.le_add_right _ _
      exact I1.fpOk hle (I1.hok.fresh hle)
def iSq (K : PySem.W.Frag) (tl : TE) : TI := fun σ H R => tl σ H fun x H1 => ∃ b a xs, x = .ref a ∧ SqB K H1 b a xs ∧ R (match b with | true => Itl K a | false => Itt K a) H1
theorem pi_sq {X : Cx} {tg l : Expr} {tl : TE} (hl : PE X l tl) : PI X tg l (iSq X.K tl) := by
  refine ⟨fun pins s σ H R I h => ?_⟩
  refine thn (hl.run pins s σ H _ I h) fun v s1 ⟨x, H1, I1, r1, q1⟩ => ?_
  obtain ⟨b, a, xs, e, hq, q⟩ := q1
  subst e
  cases r1
  have fr : ∀ c ∈ [s1.heap.objs.size], FpOk X pins H1 c := fun c hc => by
    have e : c = s1.heap.objs.size := by simpa using hc
    subst e
    exact I1.fpOk (Nat.le_refl _) (I1.hok.fresh (Nat.le_refl _))
  cases b with
  | true =>
    obtain ⟨its, rv, p, hz⟩ := I1.list hq
    refine wpAny_pyIter_list p.isList ?_
    exact ⟨s1.heap.objs.size, [s1.heap.objs.size], _, _, H1, rfl, I1.kept (t' := s1.toks) fun b o e => Heap.get?_push_of_some _ e, turn_list a _, ⟨_, Heap.get?_push_size _ rfl, rfl, rfl⟩, fr, q⟩
  | false =>
    obtain ⟨its, rv, p, hz⟩ := I1.tuple hq
    refine wpAny_pyIter_tuple (show s1.heap.IsTuple a its.toArray from p) ?_
    exact ⟨s1.heap.objs.size, [s1.heap.objs.size], _, _, H1, rfl, I1.kept (t' := s1.toks) fun b o e => Heap.get?_push_of_some _ e, turn_tuple a _, ⟨_, Heap.get?_push_size _ rfl, rfl, rfl⟩, fr, q⟩
def Ien (K : PySem.W.Frag) (b : Bool) (a : Addr) : It :=
  ⟨fun i H => ∃ (xs : List V) (x : V), SqB K H b a xs ∧ xs[i]? = some x, fun i H v H' => ∃ T x, v = .ref T ∧ H T = none ∧ H' = upd H T (.tup [.int (i : Nat), x]) ∧ ∀ xs, SqB K H b a xs → xs[i]? = some x, fun i H => ∃ xs : List V, SqB K H b a xs ∧ i = xs.length⟩
theorem turn_en {P : Program} {w : World} {K : PySem.W.Frag} {elts : List Expr} {kk : Nat} {tpos : Pos} {b : Bool} (a e it : Addr) :
    Turn P w K (.Tuple elts kk tpos) (Ien K b a) [e, it] e (fun i h => (∃ old, IsEnum h e it ((i : Nat) : Int) old) ∧ ItB h b it a i ∧ e ≠ it ∧ a ≠ it ∧ a ≠ e) where
  mem := by simp
  obj := fun i h st c hb => by
    obtain ⟨⟨old, he⟩, hi, _⟩ := st
    have e' : c = e ∨ c = it := by simpa using hb
    rcases e' with z | z
    · rw [z]; exact ⟨_, he, fun v q => nomatch q⟩
    · rw [z]; exact itB_obj hi
  keep := fun i h h' st k => let ⟨⟨old, he⟩, hi, hne⟩ := st; ⟨⟨old, k e (by simp) _ he⟩, itB_at hi fun o q => k it (by simp) o q, hne⟩
  item := by
    intro X hP hw hK hc i pins s σ H E I hf st hg
    subst hP hw hK
    obtain ⟨⟨old, he⟩, hit, hne, hai, hae⟩ := st
    obtain ⟨xs, x, hq, hx⟩ := hg
    obtain ⟨its, rv, p, hz⟩ := arB_of I hq
    obtain ⟨u, hu, ru⟩ := rv.get hx
    have hel : e < s.heap.objs.size := Heap.lt_size he
    have hil : it < s.heap.objs.size := itB_lt hit
    have hh := I.ok.hd hc
    refine wpAny_pyNext_enum_itemC (i := i) (drawsB (prog := X.prog) (w := X.w) (A := X.A.in1) hh b it a hai its.toArray) he ⟨hit, p⟩ ?_ hne ?_ fun x1 h' tk e1 ho st' hT hsz hk => ?_
    · have := (List.getElem?_eq_some_iff.mp hu).1; simpa using this
    · simp only [List.mem_cons, List.not_mem_nil, or_false, not_or]; exact ⟨hne, hae.symm⟩
    have q1 : x1 = u := by have e1 : its.toArray[i]? = some x1 := e1; simp only [List.getElem?_toArray] at e1; rw [hu] at e1; exact (Option.some.inj e1).symm
    subst q1
    refine ⟨_, rfl, wpAny_letOwnedTupleGo_enum (s := { s with heap := h', toks := tk + 1 }) ho fun h'' he' sb => ?_⟩
    have hT2 : h''.get? s.heap.objs.size = some { cls := .type "tuple", data := .seq #[.int i tk, x1] } := (sb.2 _ (Nat.ne_of_gt hel)).trans hT
    have new : ObjOk X.prog X.w (upd H s.heap.objs.size (.tup [.int (i : Nat), x])) h'' s.heap.objs.size (.tup [.int (i : Nat), x]) :=
      ⟨by show 2 ≤ sizeLine; decide, [.int i tk, x1], .cons ⟨_, rfl⟩ (.cons ru .nil), ⟨_, hT2, rfl, _, rfl⟩⟩
    have I1 : Inv X pins σ (upd H s.heap.objs.size (.tup [.int (i : Nat), x])) { s with heap := h'', toks := tk + 1 } :=
      I.turnedNew (t' := tk + 1) (ch := [e, it]) (fun b ob hb q => (sb.2 b (fun z => hb (by simp [z]))).trans (hk b ob (fun z => hb (by simp [z])) (fun z => hb (by simp [z])) q)) hf (Nat.le_refl _) new
    refine ⟨.ref s.heap.objs.size, _, I1, rfl, ⟨_, x, rfl, I.hok.fresh (Nat.le_refl _), rfl, fun ys hy => by rw [sqB_inj I hy hq]; exact hx⟩, ⟨⟨x1, ?_⟩, itB_at st'.1 fun o q => (sb.2 it (Ne.symm hne)).trans q, hne, hai, hae⟩, fun b hb => ?_⟩
    · have e1 : ((i + 1 : Nat) : Int) = (i : Int) + 1 := by omega
      rw [e1]; exact he'
    · have hb' : b < s.heap.objs.size := by
        have e' : b = e ∨ b = it := by simpa using hb
        rcases e' with z | z
        · rw [z]; exact hel
        · rw [z]; exact hil
      rw [upd_ne (Nat.ne_of_lt hb')]
      exact (hf b hb).1
  done := by
    intro X hP hw hK hc i pins s σ H E I hf st hg
    subst hP hw hK
    obtain ⟨⟨old, he⟩, hit, hne, hai, hae⟩ := st
    obtain ⟨xs, hq, hx⟩ := hg
    obtain ⟨its, rv, p, hz⟩ := arB_of I hq
    have hl := rv.length
    have hh := I.ok.hd hc
    have hsz : i = its.toArray.size := by simp; omega
    subst hsz
    obtain ⟨f0, f1, f2, f3, f4, f5⟩ := hf it (by simp)
    exact wpAny_pyNext_enum_endD (drawsB (prog := X.prog) (w := X.w) (A := X.A.in1) hh b it a hai its.toArray) he ⟨hit, p⟩ fun h' eb => ⟨rfl, I.turned (t' := s.toks) (fun b o hb q => eb b o hb q) f0 f1 f3 f4 f5⟩
  self := fun A i s Q E st h => let ⟨⟨_, he⟩, _⟩ := st; wpAny_pyIter_enum he h
set_option maxHeartbeats 1000000 in
theorem meets_enumerate_newB1 {v : Value} {o : Obj} {H : Heap → Prop} (B : Begins v o H) :
    Meets (Builtin.«enumerate.__new__» ⟨[.type "enumerate", v], []⟩) (fun _ R s => H s.heap ∧
      R (.ok (.ret (.ref (s.heap.push o).objs.size))) { s with heap := (s.heap.push o).push { cls := .type "enumerate", data := .fields #[.none, .bool false, .ref s.heap.objs.size, rawInt 0, .none, .none] } }) :=
  .of_wp fun prog w A R s h => by
    obtain ⟨hp, g, d, tk, os⟩ := s; obtain ⟨h1, h⟩ := h
    have hsub := sub_enumerate
    have q1 : ∀ {A' : Around} {E : Value → Shared → Prop} {Q : Value → Shared → Prop}, Q (.ref hp.objs.size) ⟨hp.push o, g, d, tk, os⟩ → wpAny (model prog w) A' (pyIter v) Q E ⟨hp, g, d, tk, os⟩ :=
      fun q => B.iter prog w _ _ ⟨hp, g, d, tk, os⟩ _ h1 q
    wp_walk using q1
    refine wpAny_stack_any fun st => wpAny_pure ?_
    split
    · rename_i c _ _ _ _ _
      cases (c == Value.type "enumerate")
      · wp_walk using q1
        exact ⟨_, rfl, h⟩
      · wp_walk using q1
        exact ⟨_, rfl, h⟩
    · wp_walk using q1
      exact ⟨_, rfl, h⟩
theorem enum_begins1 {prog : Program} {w : World} {A : Around} {E : Value → Shared → Prop} {s : Shared} {v : Value} {o : Obj} {H : Heap → Prop} {Q : Value → Shared → Prop} (B : Begins v o H) (h1 : H s.heap)
    (h : ∀ h', IsEnum h' (s.heap.objs.size + 1) s.heap.objs.size 0 .none → h'.get? s.heap.objs.size = some o → h'.objs.size = s.heap.objs.size + 2 →
      (∀ b o, s.heap.get? b = some o → h'.get? b = some o) → Q (.ref (s.heap.objs.size + 1)) { s with heap := h' }) :
    wpAny (model prog w) A (call (.type "enumerate") [v]) Q E s := by
  refine callType_new F.called_enumerate (by decide) (F.typeCall_enumerate_1 _) (F.newCall_enumerate_1 _) (fun obj => F.args_object_init_2 obj _) F.entry_enumerate_new
    (meets_enumerate_newB1 B) ⟨h1, ?_⟩
  have hz : (s.heap.push o).objs.size = s.heap.objs.size + 1 := Heap.size_push ..
  show _ ∧ _
  rw [hz]
  have he : IsEnum ((s.heap.push o).push { cls := .type "enumerate", data := .fields #[.none, .bool false, .ref s.heap.objs.size, rawInt 0, .none, .none] }) (s.heap.objs.size + 1) s.heap.objs.size 0 .none := by
    have := Heap.get?_push_size (s.heap.push o) (o := { cls := .type "enumerate", data := .fields #[.none, .bool false, .ref s.heap.objs.size, rawInt 0, .none, .none] }) rfl
    rw [hz] at this; exact this
  refine ⟨⟨_, he, rfl⟩, h _ he (Heap.get?_push_of_some _ (Heap.get?_push_size _ B.free)) (by rw [Heap.size_push, hz]) fun b o x => Heap.get?_push_of_some _ (Heap.get?_push_of_some _ x)⟩
def iEn (K : PySem.W.Frag) (ta : TA) : TI := fun σ H R => ta σ H fun vs H1 => ∃ b a xs, vs = [.ref a] ∧ SqB K H1 b a xs ∧ R (Ien K b a) H1
theorem pi_en {X : Cx} {e : Expr} {ta : TA} {p pos tpos : Pos} {elts : List Expr} {kk : Nat} (hg : Gl X "enumerate") (hm : X.mg "enumerate" = none) (ha : PA X [e] ta) (hs : starEach [e] X.env = [(false, eval e X.env)] := by rfl) :
    PI X (.Tuple elts kk tpos) (.Call (.Name "enumerate" p) [e] [] pos) (iEn X.K ta) := by
  refine ⟨fun pins s σ H R I h => ?_⟩
  refine Call_ (ld_blt I hg hm boot_enumerate (PyProof.Rows.callWith_type1 (thn (ha.run pos pins s σ H _ I h) fun us s1 ⟨vs, H1, I1, r1, q1⟩ => ?_) hs rfl))
  obtain ⟨b, a, xs, ex, hq, q⟩ := q1
  subst ex
  cases r1 with
  | cons r rr =>
    cases rr
    cases r
    obtain ⟨its, rv, p', la⟩ := arB_of I1 hq
    refine enum_begins1 (beginsB b a its.toArray) p' fun h' he hit hsz hk => wpAny_pyIter_enum he ?_
    have I2 : Inv X pins σ H1 { s1 with heap := h' } := I1.kept (t' := s1.toks) hk
    refine ⟨s1.heap.objs.size + 1, [s1.heap.objs.size + 1, s1.heap.objs.size], _, _, H1, rfl, I2, turn_en a (s1.heap.objs.size + 1) s1.heap.objs.size, ⟨⟨.none, he⟩, itB_new hit, Nat.succ_ne_self _, Nat.ne_of_lt la, Nat.ne_of_lt (Nat.lt_succ_of_lt la)⟩, fun b hb => ?_, q⟩
    have e' : b = s1.heap.objs.size + 1 ∨ b = s1.heap.objs.size := by simpa using hb
    have hle : s1.heap.objs.size ≤ b := by
      rcases e' with z | z
      · rw [z]; exact Nat.le_add_right _ _
      · rw [z]; exact Nat.le_refl _
    exact I1.fpOk hle (I1.hok.fresh hle)
structure ItOk (K : PySem.W.Frag) (w : Bool) (J : It) (ds : List D) (G : (Addr → Prop) → Hp → Prop) : Prop where
  goes : ∀ O i H, i < ds.length → G O H → J.go i H
  stops : ∀ O H, G O H → J.stop ds.length H
  yld : ∀ O i H x H' d, Al O H → G O H → ds[i]? = some d → J.yld i H x H' → Same H H' ∧ Rep K O H' x d
  keep : ∀ (O W : Addr → Prop) H O' H', G O H → (∀ a, W a → H a = none ∨ (w = false ∧ O a)) → Ext W H H' → (∀ a, O' a → O a ∨ H a = none) → G O' H'
theorem ItOk.keepS {K : PySem.W.Frag} {w : Bool} {J : It} {ds : List D} {G : (Addr → Prop) → Hp → Prop} (ok : ItOk K w J ds G) : ∀ O H H', G O H → Same H H' → G O H' := fun O H H' g e =>
  ok.keep O (fun _ => False) H O H' g (fun _ z => z.elim) (Ext.of_same e) fun _ z => .inl z
structure IV (X : Cx) (E : XK) (p w : Bool) (tg iter : Expr) (f : AS) : Prop where
  ex : ∃ wi, PI X tg iter wi ∧ ∀ (O W : Addr → Prop) (σ : St) (H : Hp) (ρ : List B) (R : It → Hp → Prop), StR X.K O W σ H ρ →
    Wr (f ρ) (fun r => ∀ J G H', Post p X.K O W σ H H' ρ r.2 → ItOk X.K w J r.1 G → G O H' → R J H') (EX X E O W H) → wi σ H R
theorem SqB.same {K : PySem.W.Frag} {H H' : Hp} {b : Bool} {a : Addr} {vs : List V} (h : SqB K H b a vs) (e : Same H H') : SqB K H' b a vs := by
  cases b with
  | true => exact e.seq h
  | false =>
    rcases h with (h | ⟨o, h⟩) | h
    · exact .inl (.inl (e _ _ h))
    · exact .inl (.inr ⟨o, e _ _ h⟩)
    · exact .inr h
def AtB (K : PySem.W.Frag) (O : Addr → Prop) (H : Hp) : Bool → Addr → List V → Prop
  | true, a, xs => AtL K O H a xs
  | false, a, xs => AtT K O H a xs
def Gs (K : PySem.W.Frag) (w b : Bool) (a : Addr) (vs : List V) (ds : List D) (O : Addr → Prop) (H : Hp) : Prop :=
  SqB K H b a vs ∧ Reps K O H vs ds ∧ (w = false → AtB K O H b a vs)
section
variable {K : PySem.W.Frag} {w b : Bool} {a : Addr} {vs : List V} {ds : List D} {O W O' : Addr → Prop} {H H' : Hp}
theorem Gs.keep (g : Gs K w b a vs ds O H) (s : ∀ a, W a → H a = none ∨ (w = false ∧ O a)) (e : Ext W H H') (ho : ∀ a, O' a → O a ∨ H a = none) : Gs K w b a vs ds O' H' := by
  have r : Reps K O' H' vs ds := ((g.2.1.shun (O' := fun a => O a ∨ O' a ∨ H a = none) fun a z => z.elim .inl fun z => z.elim (ho a) .inr).ext e fun a z => (s a z).elim (fun z => .inr (.inr z)) fun z => .inl z.2).less fun a z => .inr (.inl z)
  have strict : w = false → AtB K O' H' b a vs := fun hw => by
    have h := g.2.2 hw
    cases b with
    | true =>
      rcases h with ⟨h, n⟩ | h
      · exact .inl ⟨Rd.ext h (fun z => (s a z).elim (Rd.there h) fun z => n z.2) e, fun z => (ho _ z).elim n (Rd.there h)⟩
      · exact .inr h
    | false =>
      rcases h with ⟨h, n⟩ | h
      · exact .inl ⟨Rd.ext h (fun z => (s a z).elim (Rd.there h) fun z => n z.2) e, fun z => (ho _ z).elim n (Rd.there h)⟩
      · exact .inr h
  refine ⟨?_, r, strict⟩
  cases w with
  | false =>
    have h := strict rfl
    cases b with
    | true => exact AtL.sq h
    | false => exact AtT.sq h
  | true =>
    cases b with
    | true =>
      rcases g.1 with h | h
      · exact .inl (Rd.ext h (fun z => (s a z).elim (Rd.there h) fun z => nomatch z.1) e)
      · exact .inr h
    | false =>
      rcases g.1 with h | h
      · exact .inl (Rd.ext h (fun z => (s a z).elim (Rd.there h) fun z => nomatch z.1) e)
      · exact .inr h
end
def seqD : D → Option (List D)
  | .tup ds => some ds
  | .lst ds => some ds
  | _ => none
theorem gs_of {K : PySem.W.Frag} {w : Bool} {O : Addr → Prop} {H : Hp} {v : V} {d : D} {ds : List D} (r : RepW w K O H v d) (e : seqD d = some ds) : ∃ b a vs, v = .ref a ∧ Gs K w b a vs ds O H := by
  cases d with
  | tup es =>
    cases e
    obtain ⟨a, vs, h1, h2, h3⟩ := r.tup_inv
    exact ⟨false, a, vs, h1, h2.sq, h3, fun _ => h2⟩
  | lst es =>
    cases e
    rcases r with r | ⟨hw, a, vs, ds', h1, h, h3, h4⟩
    · obtain ⟨a, vs, h1, h2, h3⟩ := r.lst_inv
      exact ⟨true, a, vs, h1, h2.sq, h3, fun _ => h2⟩
    · cases h
      exact ⟨true, a, vs, h1, h3.sq, h4, fun z => by rw [hw] at z; cases z⟩
  | _ => cases e
theorem itok_sq {K : PySem.W.Frag} {w b : Bool} {a : Addr} {vs : List V} {ds : List D} : ItOk K w (match b with | true => Itl K a | false => Itt K a) ds (Gs K w b a vs ds) where
  goes := fun O i H hi g => by
    have hl := g.2.1.length
    cases b with
    | true => exact ⟨vs, vs[i], g.1, by simp [show i < vs.length by omega]⟩
    | false => exact ⟨vs, vs[i], g.1, by simp [show i < vs.length by omega]⟩
  stops := fun O H g => by
    have hl := g.2.1.length
    cases b with
    | true => exact ⟨vs, g.1, by omega⟩
    | false => exact ⟨vs, g.1, by omega⟩
  yld := fun O i H x H' d al g e y => by
    cases b with
    | true =>
      obtain ⟨rfl, y⟩ := y
      exact ⟨fun _ _ h => h, g.2.1.get (y vs g.1) e⟩
    | false =>
      obtain ⟨rfl, y⟩ := y
      exact ⟨fun _ _ h => h, g.2.1.get (y vs g.1) e⟩
  keep := fun O W H O' H' g s e ho => g.keep s e ho
def iSeq (f : ES) : AS := fun ρ => (f ρ).bind fun x => (ofO (seqD x.1)).bind fun ds => .ok (ds, x.2)
section
variable {X : Cx} {E : XK} {p q w w1 w2 : Bool} {tg e e2 : Expr} {fe fe2 : ES} {pos ppos tpos : Pos} {elts : List Expr} {kk : Nat}
theorem iv_seq (h : EV X E p w e fe) : IV X E p w tg e (iSeq fe) := by
  obtain ⟨t, pt, rt⟩ := h.ex
  refine ⟨_, pi_sq pt, fun O W σ H ρ R s h => ?_⟩
  refine rt O W σ H ρ _ s (h.bind.mono (fun x hx v H' po r => ?_) fun _ _ z => z)
  obtain ⟨ds, ed, hd⟩ := hx.bind.ofO
  obtain ⟨b, a, vs, e1, g⟩ := gs_of r ed
  exact ⟨b, a, vs, e1, g.1, hd _ _ H' po itok_sq g⟩
theorem itok_range {K : PySem.W.Frag} {w : Bool} {lo : Int} {n : Nat} : ItOk K w (Itr lo n) ((List.range n).map fun i => D.int (lo + (i : Nat))) (fun _ _ => True) where
  goes := fun O i H hi _ => by rw [List.length_map, List.length_range] at hi; exact hi
  stops := fun O H _ => by rw [List.length_map, List.length_range]; exact Nat.le_refl n
  yld := fun O i H x H' d al _ e y => by
    obtain ⟨rfl, rfl⟩ := y
    rw [List.getElem?_map] at e
    by_cases hi : i < n
    · rw [List.getElem?_range hi] at e
      cases e
      exact ⟨fun _ _ h => h, .int _⟩
    · rw [List.getElem?_eq_none (by rw [List.length_range]; omega)] at e
      cases e
  keep := fun _ _ _ _ _ _ _ _ _ => trivial
def rangeD (lo hi : Int) : Option (List D) := if (-(2 ^ 62) ≤ lo ∧ lo < 2 ^ 62) ∧ (-(2 ^ 62) ≤ hi ∧ hi < 2 ^ 62) then some ((List.range (hi - lo).toNat).map fun i => D.int (lo + (i : Nat))) else none
def iRange1 (f : ES) : AS := fun ρ => (f ρ).bind fun x => match x.1 with
  | .int hi => (ofO (rangeD 0 hi)).bind fun ds => .ok (ds, x.2)
  | _ => .bad
def iRange2 (f g : ES) : AS := fun ρ => (f ρ).bind fun x => (g x.2).bind fun y => match x.1, y.1 with
  | .int lo, .int hi => (ofO (rangeD lo hi)).bind fun ds => .ok (ds, y.2)
  | _, _ => .bad
theorem rangeD_some {lo hi : Int} {ds : List D} (e : rangeD lo hi = some ds) : ((-(2 ^ 62) ≤ lo ∧ lo < 2 ^ 62) ∧ (-(2 ^ 62) ≤ hi ∧ hi < 2 ^ 62)) ∧ ds = (List.range (hi - lo).toNat).map fun i => D.int (lo + (i : Nat)) := by
  unfold rangeD at e
  split at e
  · rename_i hb
    cases e
    exact ⟨hb, rfl⟩
  · cases e
theorem iv_range1 (hg : Gl X "range") (hm : X.mg "range" = none) (h : EV X E p false e fe) (hs : starEach [e] X.env = [(false, eval e X.env)] := by rfl) : IV X E p false tg (.Call (.Name "range" ppos) [e] [] pos) (iRange1 fe) := by
  obtain ⟨t, pt, rt⟩ := h.ex
  refine ⟨_, pi_range1 hg hm (pa_cons pt pa_nil hs) hs, fun O W σ H ρ R s h => ?_⟩
  refine rt O W σ H ρ _ s (h.bind.mono (fun x hx v H' po r => ?_) fun _ _ z => z)
  obtain ⟨d, ρ'⟩ := x
  cases d with
  | int hi =>
    obtain ⟨ds, ed, hd⟩ := Wr.ofO (Wr.bind hx)
    obtain ⟨hb, rfl⟩ := rangeD_some ed
    refine ⟨hi, by rw [r.int_inv], hb.2.1, hb.2.2, ?_⟩
    have e0 : (hi - 0).toNat = hi.toNat := by rw [Int.sub_zero]
    rw [e0] at hd
    exact hd _ _ H' po itok_range (show (fun (_ : Addr → Prop) (_ : Hp) => True) O H' from trivial)
  | _ => exact hx.elim
theorem iv_range2 (hg : Gl X "range") (hm : X.mg "range" = none) (h : EV X E p false e fe) (h2 : EV X E q false e2 fe2) (hs : starEach [e, e2] X.env = [(false, eval e X.env), (false, eval e2 X.env)] := by rfl) (hs2 : starEach [e2] X.env = [(false, eval e2 X.env)] := by rfl) :
    IV X E (p && q) false tg (.Call (.Name "range" ppos) [e, e2] [] pos) (iRange2 fe fe2) := by
  obtain ⟨t, pt, rt⟩ := h.ex
  obtain ⟨t2, pt2, rt2⟩ := h2.ex
  refine ⟨_, pi_range2 hg hm (pa_cons pt (pa_cons pt2 pa_nil hs2) (by rw [hs, hs2])) hs hs2, fun O W σ H ρ R s h => ?_⟩
  refine bin2 rt rt2 (by rfl) s (h.bind.mono (fun x hx => hx.bind.mono (fun y hy v u H' po r1 r2 => ?_) fun _ _ z => z) fun _ _ z => z)
  obtain ⟨d, ρ'⟩ := x
  obtain ⟨d2, ρ''⟩ := y
  cases d with
  | int lo =>
    cases d2 with
    | int hi =>
      obtain ⟨ds, ed, hd⟩ := Wr.ofO (Wr.bind hy)
      obtain ⟨hb, rfl⟩ := rangeD_some ed
      exact ⟨lo, hi, by rw [r1.int_inv, r2.int_inv], ⟨hb.1.1, hb.1.2, hb.2.1, hb.2.2⟩, hd _ _ H' po itok_range (show (fun (_ : Addr → Prop) (_ : Hp) => True) O H' from trivial)⟩
    | _ => exact hy.elim
  | _ => exact hy.elim
def enumD : Nat → List D → List D
  | _, [] => []
  | i, d :: ds => .tup [.int (i : Nat), d] :: enumD (i + 1) ds
theorem enumD_get : ∀ (ds : List D) (k i : Nat), (enumD k ds)[i]? = ds[i]?.map fun d => .tup [.int ((k + i : Nat) : Int), d]
  | [], k, i => by simp [enumD]
  | d :: ds, k, 0 => by simp [enumD]
  | d :: ds, k, i + 1 => by
    simp only [enumD, List.getElem?_cons_succ]
    rw [enumD_get ds (k + 1) i]
    have : k + 1 + i = k + (i + 1) := by omega
    rw [this]
theorem enumD_len : ∀ (ds : List D) (k : Nat), (enumD k ds).length = ds.length
  | [], k => rfl
  | d :: ds, k => by simp [enumD, enumD_len ds (k + 1)]
theorem itok_en {K : PySem.W.Frag} {w b : Bool} {a : Addr} {vs : List V} {ds : List D} : ItOk K w (Ien K b a) (enumD 0 ds) (Gs K w b a vs ds) where
  goes := fun O i H hi g => by
    have hl := g.2.1.length
    rw [enumD_len] at hi
    exact ⟨vs, vs[i], g.1, by simp [show i < vs.length by omega]⟩
  stops := fun O H g => by
    have hl := g.2.1.length
    rw [enumD_len]
    exact ⟨vs, g.1, by omega⟩
  yld := fun O i H x H' d al g e y => by
    obtain ⟨T, x', rfl, nT, rfl, f⟩ := y
    rw [enumD_get] at e
    cases ed : ds[i]? with
    | none => rw [ed] at e; cases e
    | some d0 =>
      rw [ed] at e
      cases e
      refine ⟨same_new nT, ?_⟩
      rw [Nat.zero_add]
      exact Rep.newT al nT (.cons (.int _) (.cons (g.2.1.get (f vs g.1) ed) .nil))
  keep := fun O W H O' H' g s e ho => g.keep s e ho
def iEnum' (f : ES) : AS := fun ρ => (f ρ).bind fun x => (ofO (seqD x.1)).bind fun ds => .ok (enumD 0 ds, x.2)
theorem iv_enum (hg : Gl X "enumerate") (hm : X.mg "enumerate" = none) (h : EV X E p w e fe) (hs : starEach [e] X.env = [(false, eval e X.env)] := by rfl) : IV X E p w (.Tuple elts kk tpos) (.Call (.Name "enumerate" ppos) [e] [] pos) (iEnum' fe) := by
  obtain ⟨t, pt, rt⟩ := h.ex
  refine ⟨_, pi_en hg hm (pa_cons pt pa_nil hs) hs, fun O W σ H ρ R s h => ?_⟩
  refine rt O W σ H ρ _ s (h.bind.mono (fun x hx v H' po r => ?_) fun _ _ z => z)
  obtain ⟨ds, ed, hd⟩ := hx.bind.ofO
  obtain ⟨b, a, vs, e1, g⟩ := gs_of r ed
  subst e1
  exact ⟨b, a, vs, rfl, g.1, hd _ _ H' po itok_en g⟩
def zipD : List D → List D → List D
  | a :: as, b :: bs => .tup [a, b] :: zipD as bs
  | _, _ => []
theorem zipD_get : ∀ (as bs : List D) (i : Nat) (d : D), (zipD as bs)[i]? = some d → ∃ a b, as[i]? = some a ∧ bs[i]? = some b ∧ d = .tup [a, b]
  | [], bs, i, d, h => by simp [zipD] at h
  | _ :: _, [], i, d, h => by simp [zipD] at h
  | a :: as, b :: bs, 0, d, h => by
    simp [zipD] at h
    exact ⟨a, b, rfl, rfl, h.symm⟩
  | a :: as, b :: bs, i + 1, d, h => by
    simp only [zipD, List.getElem?_cons_succ] at h
    obtain ⟨x, y, h1, h2, h3⟩ := zipD_get as bs i d h
    exact ⟨x, y, by simpa using h1, by simpa using h2, h3⟩
theorem zipD_len : ∀ (as bs : List D), (zipD as bs).length = min as.length bs.length
  | [], bs => by simp [zipD]
  | _ :: _, [] => by simp [zipD]
  | a :: as, b :: bs => by
    simp only [zipD, List.length_cons, zipD_len as bs]
    omega
theorem itok_z2 {K : PySem.W.Frag} {w1 w2 b1 b2 : Bool} {a c : Addr} {vs us : List V} {ds es : List D} : ItOk K (w1 || w2) (Iz2 K b1 b2 a c) (zipD ds es) (fun O H => Gs K w1 b1 a vs ds O H ∧ Gs K w2 b2 c us es O H) where
  goes := fun O i H hi g => by
    have hl := g.1.2.1.length
    have hl2 := g.2.2.1.length
    rw [zipD_len] at hi
    exact ⟨vs, us, vs[i], us[i], g.1.1, g.2.1, by simp [show i < vs.length by omega], by simp [show i < us.length by omega]⟩
  stops := fun O H g => by
    have hl := g.1.2.1.length
    have hl2 := g.2.2.1.length
    rw [zipD_len]
    exact ⟨vs, us, g.1.1, g.2.1, by omega, by omega, by omega⟩
  yld := fun O i H x H' d al g e y => by
    obtain ⟨T, x', y', rfl, nT, rfl, f, f2⟩ := y
    obtain ⟨d1, d2, h1, h2, rfl⟩ := zipD_get _ _ _ _ e
    exact ⟨same_new nT, Rep.newT al nT (.cons (g.1.2.1.get (f vs g.1.1) h1) (.cons (g.2.2.1.get (f2 us g.2.1) h2) .nil))⟩
  keep := fun O W H O' H' g s e ho => by
    refine ⟨g.1.keep (fun a z => (s a z).imp id fun z => ⟨?_, z.2⟩) e ho, g.2.keep (fun a z => (s a z).imp id fun z => ⟨?_, z.2⟩) e ho⟩
    · cases w1 with
      | false => rfl
      | true => exact nomatch z.1
    · cases w2 with
      | false => rfl
      | true =>
        have q := z.1
        cases w1 <;> cases q
def iZip' (f g : ES) : AS := fun ρ => (f ρ).bind fun x => (g x.2).bind fun y => (ofO (seqD x.1)).bind fun ds => (ofO (seqD y.1)).bind fun es => .ok (zipD ds es, y.2)
theorem iv_zip (hg : Gl X "zip") (hm : X.mg "zip" = none) (h : EV X E p w1 e fe) (h2 : EV X E q w2 e2 fe2) (hw : (!w1 || q) = true := by rfl)
    (hs : starEach [e, e2] X.env = (false, eval e X.env) :: starEach [e2] X.env := by rfl) (hs2 : starEach [e2] X.env = [(false, eval e2 X.env)] := by rfl) (hpl : (backTo pos (starEach [e2] X.env)).any (·.1) = false := by rfl) :
    IV X E (p && q) (w1 || w2) (.Tuple elts kk tpos) (.Call (.Name "zip" ppos) [e, e2] [] pos) (iZip' fe fe2) := by
  obtain ⟨t, pt, rt⟩ := h.ex
  obtain ⟨t2, pt2, rt2⟩ := h2.ex
  refine ⟨_, pi_z2 hg hm (pa_cons pt (pa_cons pt2 pa_nil hs2) hs) hs hpl, fun O W σ H ρ R s h => ?_⟩
  refine bin2 rt rt2 hw s (h.bind.mono (fun x hx => hx.bind.mono (fun y hy v u H' po r1 r2 => ?_) fun _ _ z => z) fun _ _ z => z)
  obtain ⟨ds, ed, hd⟩ := Wr.ofO (Wr.bind hy)
  obtain ⟨es, ee, he⟩ := Wr.ofO (Wr.bind hd)
  obtain ⟨b, a, vs, e1, g⟩ := gs_of r1 ed
  obtain ⟨b2, a2, vs2, e2, g2⟩ := gs_of r2 ee
  subst e1 e2
  exact ⟨b, b2, a, a2, vs, vs2, rfl, g.1, g2.1, he _ _ H' po itok_z2 ⟨g, g2⟩⟩
end
end RT
namespace RT
open PySem PySem.Spec PyProof.Rows L2
def putS (σ : St) : List (Nat × V) → St
  | [] => σ
  | (i, v) :: r => putS (σ.set i (some v)) r
def putB (ρ : List B) : List (Nat × D) → List B
  | [] => ρ
  | (i, d) :: r => putB (ρ.set i (.va d)) r
inductive Puts (K : PySem.W.Frag) (O : Addr → Prop) (H : Hp) : List (Nat × V) → List (Nat × D) → Prop
  | nil : Puts K O H [] []
  | cons {i : Nat} {v : V} {d : D} {vs : List (Nat × V)} {ds : List (Nat × D)} : Rep K O H v d → Puts K O H vs ds → Puts K O H ((i, v) :: vs) ((i, d) :: ds)
theorem Puts.append {K : PySem.W.Frag} {O : Addr → Prop} {H : Hp} : ∀ {vs us : List (Nat × V)} {ds es : List (Nat × D)}, Puts K O H vs ds → Puts K O H us es → Puts K O H (vs ++ us) (ds ++ es)
  | _, _, _, _, .nil, s => s
  | _, _, _, _, .cons r t, s => .cons r (Puts.append t s)
theorem putS_append : ∀ (σ : St) (a b : List (Nat × V)), putS σ (a ++ b) = putS (putS σ a) b
  | _, [], _ => rfl
  | σ, (i, v) :: r, b => putS_append (σ.set i (some v)) r b
theorem StR.puts {K : PySem.W.Frag} {O W : Addr → Prop} {H : Hp} : ∀ {vs : List (Nat × V)} {ds : List (Nat × D)} {σ : St} {ρ : List B}, Puts K O H vs ds → StR K O W σ H ρ → StR K O W (putS σ vs) H (putB ρ ds)
  | _, _, _, _, .nil, s => s
  | _, _, σ, ρ, .cons (i := i) r t, s => StR.puts (σ := σ.set i _) (ρ := ρ.set i _) t (s.put r)
theorem SI.puts {K : PySem.W.Frag} {b : Bs} {O W : Addr → Prop} {H : Hp} : ∀ {vs : List (Nat × V)} {ds : List (Nat × D)} {σ : St} {ρ : List B}, Puts K O H vs ds → SI K b O W σ H ρ → SI K b O W (putS σ vs) H (putB ρ ds)
  | _, _, _, _, .nil, s => s
  | _, _, σ, ρ, .cons (i := i) r t, s => SI.puts (σ := σ.set i _) (ρ := ρ.set i _) t (s.put r)
structure GV (X : Cx) (is : List Nat) (tg : Expr) (f : D → Option (List (Nat × D))) : Prop where
  ex : ∃ g, PG X tg g ∧ ∀ (O : Addr → Prop) (H : Hp) (σ : St) (v : V) (d : D) (as : List (Nat × D)) (Q : St → Hp → Prop), Rep X.K O H v d → f d = some as →
    (∀ vs, Puts X.K O H vs as → vs.map (·.1) = is → Q (putS σ vs) H) → g v σ H Q
structure GVs (X : Cx) (is : List Nat) (tgs : List Expr) (f : List D → Option (List (Nat × D))) : Prop where
  ex : ∃ g, PGs X tgs g ∧ ∀ (O : Addr → Prop) (H : Hp) (σ : St) (vs : List V) (ds : List D) (as : List (Nat × D)) (Q : St → Hp → Prop), Reps X.K O H vs ds → f ds = some as →
    (∀ us, Puts X.K O H us as → us.map (·.1) = is → Q (putS σ us) H) → g vs σ H Q
def gN (i : Nat) (d : D) : Option (List (Nat × D)) := some [(i, d)]
def gsNil : List D → Option (List (Nat × D))
  | [] => some []
  | _ => none
def gsCons (f : D → Option (List (Nat × D))) (g : List D → Option (List (Nat × D))) : List D → Option (List (Nat × D))
  | d :: ds => (f d).bind fun a => (g ds).bind fun b => some (a ++ b)
  | [] => none
def gT (g : List D → Option (List (Nat × D))) : D → Option (List (Nat × D))
  | .tup ds => g ds
  | _ => none
section
variable {X : Cx} {is js : List Nat} {tg : Expr} {tgs : List Expr} {f : D → Option (List (Nat × D))} {g : List D → Option (List (Nat × D))} {pos : Pos} {k : Nat}
theorem gv_name (i : Nat) {x : Str} (hN : X.N.Nodup) (hi : X.N[i]? = some x := by rfl) (hx : Loc X.env.scope x := by first | exact Or.inl rfl | exact Or.inr rfl) (hf : X.fn x = true ∨ X.env.scope.names.lookup x = some .local := by first | exact .inl rfl | exact .inr rfl) : GV X [i] (.Name x pos) (gN i) := by
  refine ⟨_, pg_name hN hi hx hf, fun O H σ v d as Q r e h => ?_⟩
  cases e
  exact h [(i, v)] (.cons r .nil) rfl
theorem gvs_nil : GVs X [] [] gsNil := by
  refine ⟨_, pgs_nil, fun O H σ vs ds as Q r e h => ?_⟩
  cases r with
  | nil => cases e; exact ⟨rfl, h [] .nil rfl⟩
  | cons r t => cases e
theorem gvs_cons (h1 : GV X is tg f) (h2 : GVs X js tgs g) (hs : (assignEach (tg :: tgs) X.env).map (·.2) = assign tg X.env :: (assignEach tgs X.env).map (·.2) := by rfl) : GVs X (is ++ js) (tg :: tgs) (gsCons f g) := by
  obtain ⟨g1, p1, r1⟩ := h1.ex
  obtain ⟨g2, p2, r2⟩ := h2.ex
  refine ⟨_, pgs_cons p1 p2 hs, fun O H σ vs ds as Q r e h => ?_⟩
  cases r with
  | nil => cases e
  | cons r t =>
    rename_i v vs d ds
    have e : ((f d).bind fun a => (g ds).bind fun b => some (a ++ b)) = some as := e
    cases e1 : f d with
    | none => rw [e1] at e; cases e
    | some a =>
      rw [e1, Option.bind_some] at e
      cases e2 : g ds with
      | none => rw [e2] at e; cases e
      | some b =>
        rw [e2] at e
        cases e
        refine ⟨v, vs, rfl, r1 O H σ v d a _ r e1 fun us pu iu => r2 O H _ vs ds b _ t e2 fun us2 pu2 iu2 => ?_⟩
        rw [← putS_append]
        exact h (us ++ us2) (pu.append pu2) (by rw [List.map_append, iu, iu2])
theorem gv_tup (hc : X.calm = true) (h : GVs X is tgs g) (hl : ∀ ds as, g ds = some as → ds.length = tgs.length) (hn : (assignEach tgs X.env).length = tgs.length := by rfl) (hst : (assignEach tgs X.env).findIdx? (·.1) = none := by rfl) : GV X is (.Tuple tgs k pos) (gT g) := by
  obtain ⟨g1, p1, r1⟩ := h.ex
  refine ⟨_, pg_tup hc p1 hn hst, fun O H σ v d as Q r e h => ?_⟩
  cases d with
  | tup ds =>
    obtain ⟨a, vs, rfl, h1, h2⟩ := r.tup_inv
    exact ⟨a, vs, rfl, h1.sq, by rw [h2.length]; exact hl ds as e, r1 O H σ vs ds as Q h2 e h⟩
  | _ => cases e
theorem gsNil_len : ∀ ds as, gsNil ds = some as → ds.length = ([] : List Expr).length
  | [], _, _ => rfl
  | _ :: _, _, h => by cases h
theorem gsCons_len (hg : ∀ ds as, g ds = some as → ds.length = tgs.length) : ∀ ds as, gsCons f g ds = some as → ds.length = (tg :: tgs).length
  | [], _, h => by cases h
  | d :: ds, as, h => by
    have h : ((f d).bind fun a => (g ds).bind fun b => some (a ++ b)) = some as := h
    cases e1 : f d with
    | none => rw [e1] at h; cases h
    | some a =>
      rw [e1, Option.bind_some] at h
      cases e2 : g ds with
      | none => rw [e2] at h; cases h
      | some b => rw [List.length_cons, List.length_cons, hg ds b e2]
end
def forGo (tg : D → Option (List (Nat × D))) (body : List B → Fl) : List D → List B → Fl
  | [], ρ => .nx ρ
  | d :: ds, ρ => match tg d with
    | none => .bad
    | some as => match body (putB ρ as) with
      | .nx ρ' => forGo tg body ds ρ'
      | .ct ρ' => forGo tg body ds ρ'
      | .bk ρ' => .nx ρ'
      | f => f
def sFor (it : AS) (tg : D → Option (List (Nat × D))) (body : List B → Fl) : List B → Fl := fun ρ => sRs (it ρ) fun x => forGo tg body x.1 x.2
theorem FlOk.ends {X : Cx} {E : XK} {b : Bs} {O W : Addr → Prop} {H : Hp} {D1 D2 : Ends} {f : Fl} (h : FlOk X E b O W H D1 f) (h1 : ∀ σ H, D1.nx σ H → D2.nx σ H) (h2 : ∀ v H, D1.rt v H → D2.rt v H) (h3 : ∀ σ H, D1.bk σ H → D2.bk σ H) (h4 : ∀ σ H, D1.ct σ H → D2.ct σ H) : FlOk X E b O W H D2 f := by
  cases f with
  | nx ρ => exact fun O' W' σ' H' s t => h1 _ _ (h O' W' σ' H' s t)
  | rt d ρ => exact fun v O' W' σ' H' s r => h2 _ _ (h v O' W' σ' H' s r)
  | bk ρ => exact fun O' W' σ' H' s t => h3 _ _ (h O' W' σ' H' s t)
  | ct ρ => exact fun O' W' σ' H' s t => h4 _ _ (h O' W' σ' H' s t)
  | ex c x => exact h
  | ro ds ρ => exact fun q vs O' W' σ' H' s n hq r => h2 _ _ (h q vs O' W' σ' H' s n hq r)
  | bad => exact h
theorem drop_cons {ds : List D} {i : Nat} {d : D} {r : List D} (h : ds.drop i = d :: r) : ds[i]? = some d ∧ ds.drop (i + 1) = r ∧ i < ds.length := by
  have hi : i < ds.length := by
    by_cases q : i < ds.length
    · exact q
    · rw [List.drop_eq_nil_of_le (by omega)] at h; cases h
  rw [List.drop_eq_getElem_cons hi] at h
  injection h with h1 h2
  exact ⟨by rw [List.getElem?_eq_getElem hi, h1], h2, hi⟩
section
variable {X : Cx} {E : XK} {p w : Bool} {is : List Nat} {tg iter c : Expr} {body : List Stmt} {it : AS} {f : D → Option (List (Nat × D))} {g : List B → Fl} {be : BS} {pos : Pos}
theorem ss_for (hp : PassesOwn (model X.prog X.w) X.A X.env X.xe) (hc : X.calm = true) (hi : IV X E p false tg iter it) (hg : GV X is tg f) (hb : SSs X E body g)
    (hs : ∀ x, foldedSetIterable iter X.env x = pure x := by intro _; rfl) : SS X E (.For tg iter body [] pos) (sFor it f g) := by
  obtain ⟨wi, pi, ri⟩ := hi.ex
  obtain ⟨gt, pg, rg⟩ := hg.ex
  obtain ⟨tb, pb, rb⟩ := hb.ex
  refine ⟨_, ps_for hp hc pi pg pb hs, fun b O W De σ H ρ s h => ?_⟩
  refine ri O W σ H ρ _ s.st ((FlOk.rs s h).mono (fun x hx J G H1 po ok gg => ?_) fun _ _ z => z)
  obtain ⟨ds, ρ1⟩ := x
  have s1 := s.post po
  have t1 := s.tr po
  refine ⟨fun i m σ' H' => m = ds.length - i ∧ i ≤ ds.length ∧ ∃ O' W' ρ', SI X.K b O' W' σ' H' ρ' ∧ G O' H' ∧ FlOk X E b O' W' H' De (forGo f g (ds.drop i) ρ'), ⟨ds.length, rfl, Nat.zero_le _, O, W, ρ1, s1, gg, FlOk.on hx s.st.sub t1⟩, ?_⟩
  rintro i m σ2 H2 ⟨rfl, hi, O2, W2, ρ2, s2, g2, k2⟩
  by_cases hlt : i < ds.length
  · have ed : ds.drop i = ds[i] :: ds.drop (i + 1) := List.drop_eq_getElem_cons hlt
    rw [ed] at k2
    unfold forGo at k2
    refine .inr ⟨ok.goes O2 i H2 hlt g2, fun σ' H' => i + 1 ≤ ds.length ∧ ∃ O' W' ρ', SI X.K b O' W' σ' H' ρ' ∧ G O' H' ∧ FlOk X E b O' W' H' De (forGo f g (ds.drop (i + 1)) ρ'), fun σ' H' n => ⟨ds.length - (i + 1), by omega, rfl, n.1, n.2⟩, fun x H' y => ?_⟩
    obtain ⟨sm, rx⟩ := ok.yld O2 i H2 x H' ds[i] s2.st.al g2 (List.getElem?_eq_getElem hlt) y
    have po2 : Post true X.K O2 W2 σ2 H2 H' ρ2 ρ2 := Post.of_same s2.st sm
    have s3 := s2.post po2
    have t3 := s2.tr po2
    cases ef : f ds[i] with
    | none => rw [ef] at k2; exact k2.elim
    | some as =>
      simp only [ef] at k2
      refine rg O2 H' σ2 x ds[i] as _ rx ef fun vs pu _ => ?_
      have s4 := SI.puts pu s3
      refine rb b O2 W2 _ _ H' _ s4 ?_
      have k3 := FlOk.on k2 s2.st.sub t3
      have gg3 := ok.keepS O2 H2 H' g2 sm
      have next : ∀ {ρ' : List B}, FlOk X E b O2 W2 H' De (forGo f g (ds.drop (i + 1)) ρ') → ∀ O' W' σ' H'', SI X.K b O' W' σ' H'' ρ' → Tr O2 W2 H' O' W' H'' → i + 1 ≤ ds.length ∧ ∃ O' W' ρ', SI X.K b O' W' σ' H'' ρ' ∧ G O' H'' ∧ FlOk X E b O' W' H'' De (forGo f g (ds.drop (i + 1)) ρ') :=
        fun {ρ'} k O' W' σ' H'' s' t' => ⟨hlt, O', W', ρ', s', ok.keep O2 W2 H' O' H'' gg3 (fun a z => .inr ⟨rfl, s2.st.sub a z⟩) t'.ext t'.ow, FlOk.on k s2.st.sub t'⟩
      cases eb : g (putB ρ2 as) with
      | nx ρ' => simp only [eb] at k3; exact next k3
      | ct ρ' => simp only [eb] at k3; exact next k3
      | bk ρ' => simp only [eb] at k3; exact k3
      | rt d ρ' => simp only [eb] at k3; exact k3
      | ex c x => simp only [eb] at k3; exact k3
      | ro ds ρ' => simp only [eb] at k3; exact k3
      | bad => simp only [eb] at k3; exact k3
  · have e : i = ds.length := by omega
    subst e
    rw [List.drop_length] at k2
    exact .inl ⟨ok.stops O2 H2 g2, k2 O2 W2 σ2 H2 s2 Tr.refl⟩
def whileGo (c : BS) (body : List B → Fl) : Nat → List B → Fl
  | 0, _ => .bad
  | n + 1, ρ => sRs (c ρ) fun x => match x.1 with
    | false => .nx x.2
    | true => match body x.2 with
      | .nx ρ' => whileGo c body n ρ'
      | .ct ρ' => whileGo c body n ρ'
      | .bk ρ' => .nx ρ'
      | f => f
def sWhile (n : Nat) (c : BS) (body : List B → Fl) : List B → Fl := fun ρ => whileGo c body n ρ
theorem ss_while (n : Nat) (hp : PassesOwn (model X.prog X.w) X.A X.env X.xe) (hc : TV X E p c be) (hb : SSs X E body g) : SS X E (.While c body [] pos) (sWhile n be g) := by
  obtain ⟨tc, pc, rc⟩ := hc.ex
  obtain ⟨tb, pb, rb⟩ := hb.ex
  refine ⟨_, ps_while hp pc pb, fun b O W De σ H ρ s h => ?_⟩
  refine ⟨fun m σ' H' => ∃ O' W' ρ', SI X.K b O' W' σ' H' ρ' ∧ FlOk X E b O' W' H' De (whileGo be g m ρ'), ⟨n, O, W, ρ, s, h⟩, ?_⟩
  rintro m σ2 H2 ⟨O2, W2, ρ2, s2, k2⟩
  cases m with
  | zero => exact k2.elim
  | succ m =>
    unfold whileGo at k2
    refine rc O2 W2 σ2 H2 ρ2 _ s2.st ((FlOk.rs s2 k2).mono (fun x hx H3 po => ?_) fun _ _ z => z)
    obtain ⟨k, ρ3⟩ := x
    have s3 := s2.post po
    have t3 := s2.tr po
    cases k with
    | false => exact iteF (hx O2 W2 σ2 H3 s3 t3)
    | true =>
      refine iteT ⟨fun σ' H' => ∃ O' W' ρ', SI X.K b O' W' σ' H' ρ' ∧ FlOk X E b O' W' H' De (whileGo be g m ρ'), fun σ' H' q => ⟨m, Nat.lt_succ_self m, q⟩, ?_⟩
      refine rb b O2 W2 _ σ2 H3 ρ3 s3 ?_
      have k3 : FlOk X E b O2 W2 H3 De (match g ρ3 with
        | .nx ρ' => whileGo be g m ρ'
        | .ct ρ' => whileGo be g m ρ'
        | .bk ρ' => .nx ρ'
        | f => f) := FlOk.on hx s2.st.sub t3
      cases eb : g ρ3 with
      | nx ρ' => simp only [eb] at k3; exact fun O' W' σ' H' s' t' => ⟨O', W', ρ', s', FlOk.on k3 s2.st.sub t'⟩
      | ct ρ' => simp only [eb] at k3; exact fun O' W' σ' H' s' t' => ⟨O', W', ρ', s', FlOk.on k3 s2.st.sub t'⟩
      | bk ρ' => simp only [eb] at k3; exact k3
      | rt d ρ' => simp only [eb] at k3; exact k3
      | ex c x => simp only [eb] at k3; exact k3
      | ro ds ρ' => simp only [eb] at k3; exact k3
      | bad => simp only [eb] at k3; exact k3
end
end RT
namespace RT
open PySem PySem.Spec PyProof.Rows L2
def tE (X : Cx) (E : XK) (p w : Bool) (f : ES) : TE := fun σ H Q => ∃ (O W : Addr → Prop) (ρ : List B), StR X.K O W σ H ρ ∧ Wr (f ρ) (fun r => ∀ v H', Post p X.K O W σ H H' ρ r.2 → RepW w X.K O H' v r.1 → Q v H') (EX X E O W H)
def tT (X : Cx) (E : XK) (p : Bool) (f : BS) : TT := fun σ H Q => ∃ (O W : Addr → Prop) (ρ : List B), StR X.K O W σ H ρ ∧ Wr (f ρ) (fun r => ∀ H', Post p X.K O W σ H H' ρ r.2 → Q r.1 H') (EX X E O W H)
def tGV (X : Cx) (is : List Nat) (f : D → Option (List (Nat × D))) : TG := fun v σ H Q => ∃ (O : Addr → Prop) (d : D) (as : List (Nat × D)), Rep X.K O H v d ∧ f d = some as ∧ ∀ vs, Puts X.K O H vs as → vs.map (·.1) = is → Q (putS σ vs) H
theorem EV.pe {X : Cx} {E : XK} {p w : Bool} {e : Expr} {f : ES} (h : EV X E p w e f) : PE X e (tE X E p w f) := by
  obtain ⟨t, pt, rt⟩ := h.ex
  exact ⟨fun pins s σ H Q I ⟨O, W, ρ, st, hw⟩ => pt.run pins s σ H Q I (rt O W σ H ρ Q st hw)⟩
theorem TV.pt {X : Cx} {E : XK} {p : Bool} {e : Expr} {f : BS} (h : TV X E p e f) : PT X e (tT X E p f) := by
  obtain ⟨t, pt, rt⟩ := h.ex
  exact ⟨fun pins s σ H Q I ⟨O, W, ρ, st, hw⟩ => pt.run pins s σ H Q I (rt O W σ H ρ Q st hw)⟩
theorem GV.pg {X : Cx} {is : List Nat} {tg : Expr} {f : D → Option (List (Nat × D))} (h : GV X is tg f) : PG X tg (tGV X is f) := by
  obtain ⟨g, pg, rg⟩ := h.ex
  exact ⟨fun pins s σ H v u Q I r ⟨O, d, as, rd, ef, hw⟩ => pg.run pins s σ H v u Q I r (rg O H σ v d as Q rd ef hw)⟩
structure TsV (X : Cx) (E : XK) (p : Bool) (es : List Expr) (f : BS) : Prop where
  run : PTs X es (tT X E p f)
def bYes : BS := fun ρ => .ok (true, ρ)
theorem tsv_nil {X : Cx} {E : XK} : TsV X E true [] bYes := ⟨⟨fun pins s σ H Q I ⟨O, W, ρ, st, hw⟩ => pts_nil.run pins s σ H Q I (hw H (Post.refl st))⟩⟩
theorem tsv_one {X : Cx} {E : XK} {p : Bool} {c : Expr} {f : BS} (h : TV X E p c f) : TsV X E p [c] f := ⟨pts_one h.pt⟩
def wipeB (ρ : List B) : List Nat → List B
  | [] => ρ
  | v :: vs => (wipeB ρ vs).set v .un
def restB (ρ1 ρ : List B) : List Nat → List B
  | [] => ρ
  | v :: vs => (restB ρ1 ρ vs).set v (ρ1.getD v .un)
def noOw (ρ : List B) (vs : List Nat) : Bool := vs.all fun i => !(isOw ρ[i]?)
def noX {α : Type} : Rs α → Rs α
  | .ok a => .ok a
  | _ => .bad
@[simp] theorem noX_ok {α : Type} (a : α) : noX (.ok a) = .ok a := rfl
theorem Wr.noX {α : Type} {r : Rs α} {k : α → Prop} {e e' : Str → D → Prop} (h : Wr (noX r) k e) : Wr r k e' := by
  cases r with
  | ok a => exact h
  | exc c x => exact h.elim
  | bad => exact h
def lcGo (vs : List Nat) (tg : D → Option (List (Nat × D))) (tt : BS) (te : ES) : List D → List B → List D → Rs (List D × List B)
  | [], ρ, acc => .ok (acc, ρ)
  | d :: ds, ρ, acc => match tg d with
    | none => .bad
    | some as => (noX (tt (putB ρ as))).bind fun x => match x.1 with
      | false => lcGo vs tg tt te ds (wipeB x.2 vs) acc
      | true => (noX (te x.2)).bind fun y => if acc.length < sizeLine then lcGo vs tg tt te ds (wipeB y.2 vs) (acc ++ [y.1]) else .bad
def oLc (vs : List Nat) (it : AS) (tg : D → Option (List (Nat × D))) (tt : BS) (te : ES) : AS := fun ρ => (it ρ).bind fun x =>
  if noOw x.2 vs = true then (lcGo vs tg tt te x.1 (wipeB x.2 vs) []).bind fun y => .ok (y.1, restB x.2 y.2 vs) else .bad
theorem wipeB_length (ρ : List B) : ∀ vs, (wipeB ρ vs).length = ρ.length
  | [] => rfl
  | v :: vs => by unfold wipeB; rw [List.length_set, wipeB_length ρ vs]
theorem restB_length (ρ1 ρ : List B) : ∀ vs, (restB ρ1 ρ vs).length = ρ.length
  | [] => rfl
  | v :: vs => by unfold restB; rw [List.length_set, restB_length ρ1 ρ vs]
theorem wipeB_in {ρ : List B} {i : Nat} : ∀ {vs : List Nat} {b : B}, i ∈ vs → (wipeB ρ vs)[i]? = some b → b = .un
  | [], b, h, _ => nomatch h
  | v :: vs, b, h, e => by
    unfold wipeB at e
    rcases set_some e with ⟨_, e2⟩ | ⟨n, e2⟩
    · exact e2.symm
    · rcases List.mem_cons.mp h with h | h
      · exact absurd h.symm n
      · exact wipeB_in h e2
theorem wipeB_out {ρ : List B} {i : Nat} : ∀ {vs : List Nat}, i ∉ vs → (wipeB ρ vs)[i]? = ρ[i]?
  | [], _ => rfl
  | v :: vs, h => by
    unfold wipeB
    rw [List.getElem?_set_ne (fun e => h (by rw [e]; exact List.mem_cons_self)), wipeB_out fun z => h (List.mem_cons_of_mem _ z)]
theorem restB_out {ρ1 ρ : List B} {i : Nat} : ∀ {vs : List Nat}, i ∉ vs → (restB ρ1 ρ vs)[i]? = ρ[i]?
  | [], _ => rfl
  | v :: vs, h => by
    unfold restB
    rw [List.getElem?_set_ne (fun e => h (by rw [e]; exact List.mem_cons_self)), restB_out fun z => h (List.mem_cons_of_mem _ z)]
theorem restB_in {ρ1 ρ : List B} {i : Nat} (hl : ρ.length = ρ1.length) : ∀ {vs : List Nat}, i ∈ vs → (restB ρ1 ρ vs)[i]? = ρ1[i]?
  | [], h => nomatch h
  | v :: vs, h => by
    unfold restB
    by_cases e : v = i
    · subst e
      by_cases hv : v < ρ1.length
      · rw [List.getElem?_set_self (by rw [restB_length, hl]; exact hv), List.getD_eq_getElem?_getD, List.getElem?_eq_getElem hv]
        rfl
      · rw [List.getElem?_eq_none (by rw [List.length_set, restB_length, hl]; omega), List.getElem?_eq_none (by omega)]
    · rw [List.getElem?_set_ne e]
      rcases List.mem_cons.mp h with h | h
      · exact absurd h.symm e
      · exact restB_in hl h
theorem wipe_in {σ : St} {i : Nat} {x : Option V} : ∀ {vs : List Nat}, i ∈ vs → (wipe σ vs)[i]? = some x → x = none
  | [], h, _ => nomatch h
  | v :: vs, h, e => by
    unfold wipe at e
    rw [List.getElem?_set] at e
    split at e
    · split at e
      · exact (Option.some.inj e).symm
      · cases e
    · rename_i n
      rcases List.mem_cons.mp h with h | h
      · exact absurd h.symm n
      · exact wipe_in h e
theorem putS_out {i : Nat} : ∀ {vs : List (Nat × V)} {σ : St}, i ∉ vs.map (·.1) → (putS σ vs)[i]? = σ[i]?
  | [], _, _ => rfl
  | (j, v) :: r, σ, h => by
    have e : putS σ ((j, v) :: r) = putS (σ.set j (some v)) r := rfl
    rw [e, putS_out (fun z => h (by rw [List.map_cons]; exact List.mem_cons_of_mem _ z)), List.getElem?_set_ne]
    intro z
    exact h (by rw [List.map_cons, ← z]; exact List.mem_cons_self)
theorem putB_out {i : Nat} : ∀ {vs : List (Nat × D)} {ρ : List B}, i ∉ vs.map (·.1) → (putB ρ vs)[i]? = ρ[i]?
  | [], _, _ => rfl
  | (j, v) :: r, ρ, h => by
    have e : putB ρ ((j, v) :: r) = putB (ρ.set j (.va v)) r := rfl
    rw [e, putB_out (fun z => h (by rw [List.map_cons]; exact List.mem_cons_of_mem _ z)), List.getElem?_set_ne]
    intro z
    exact h (by rw [List.map_cons, ← z]; exact List.mem_cons_self)
theorem putS_length : ∀ (vs : List (Nat × V)) (σ : St), (putS σ vs).length = σ.length
  | [], _ => rfl
  | (j, v) :: r, σ => by
    show (putS (σ.set j (some v)) r).length = _
    rw [putS_length r, List.length_set]
theorem putB_length : ∀ (vs : List (Nat × D)) (ρ : List B), (putB ρ vs).length = ρ.length
  | [], _ => rfl
  | (j, v) :: r, ρ => by
    show (putB (ρ.set j (.va v)) r).length = _
    rw [putB_length r, List.length_set]
theorem puts_slots {K : PySem.W.Frag} {O : Addr → Prop} {H : Hp} : ∀ {vs : List (Nat × V)} {as : List (Nat × D)}, Puts K O H vs as → as.map (·.1) = vs.map (·.1)
  | _, _, .nil => rfl
  | _, _, .cons r t => by rw [List.map_cons, List.map_cons, puts_slots t]
theorem ext_get {α : Type} {a b : List α} (h : ∀ i : Nat, a[i]? = b[i]?) : a = b := List.ext_getElem? h
theorem wipe_put {σ : St} {vs : List Nat} {us : List (Nat × V)} (h : ∀ i ∈ us.map (·.1), i ∈ vs) : wipe (putS (wipe σ vs) us) vs = wipe σ vs := by
  refine ext_get fun i => ?_
  by_cases hi : i ∈ vs
  · have hl : (wipe (putS (wipe σ vs) us) vs).length = (wipe σ vs).length := by rw [wipe_length, putS_length]
    by_cases hlt : i < (wipe σ vs).length
    · obtain ⟨x, hx⟩ : ∃ x, (wipe (putS (wipe σ vs) us) vs)[i]? = some x := ⟨_, List.getElem?_eq_getElem (by rw [hl]; exact hlt)⟩
      obtain ⟨y, hy⟩ : ∃ y, (wipe σ vs)[i]? = some y := ⟨_, List.getElem?_eq_getElem hlt⟩
      rw [hx, hy, wipe_in hi hx, wipe_in hi hy]
    · rw [List.getElem?_eq_none (by omega), List.getElem?_eq_none (by omega)]
  · rw [wipe_out hi, putS_out fun z => hi (h i z)]
theorem wipeB_put {ρ : List B} {vs : List Nat} {us : List (Nat × D)} (h : ∀ i ∈ us.map (·.1), i ∈ vs) : wipeB (putB (wipeB ρ vs) us) vs = wipeB ρ vs := by
  refine ext_get fun i => ?_
  by_cases hi : i ∈ vs
  · have hl : (wipeB (putB (wipeB ρ vs) us) vs).length = (wipeB ρ vs).length := by rw [wipeB_length, putB_length]
    by_cases hlt : i < (wipeB ρ vs).length
    · obtain ⟨x, hx⟩ : ∃ x, (wipeB (putB (wipeB ρ vs) us) vs)[i]? = some x := ⟨_, List.getElem?_eq_getElem (by rw [hl]; exact hlt)⟩
      obtain ⟨y, hy⟩ : ∃ y, (wipeB ρ vs)[i]? = some y := ⟨_, List.getElem?_eq_getElem hlt⟩
      rw [hx, hy, wipeB_in hi hx, wipeB_in hi hy]
    · rw [List.getElem?_eq_none (by omega), List.getElem?_eq_none (by omega)]
  · rw [wipeB_out hi, putB_out fun z => hi (h i z)]
section
variable {K : PySem.W.Frag} {O W : Addr → Prop} {σ σ' : St} {H H' : Hp} {ρ ρ' : List B} {vs : List Nat}
theorem StR.wipe (s : StR K O W σ H ρ) : StR K O W (wipe σ vs) H (wipeB ρ vs) where
  len := by rw [wipe_length, wipeB_length]; exact s.len
  slot := fun i b e => by
    by_cases hi : i ∈ vs
    · rw [wipeB_in hi e]; exact trivial
    · rw [wipeB_out hi] at e
      rw [wipe_out hi]
      exact s.slot i b e
  apart := fun i j p h1 h2 h3 h4 => by
    have out : ∀ k, isOw (wipeB ρ vs)[k]? = true → k ∉ vs ∧ isOw ρ[k]? = true := fun k h => by
      by_cases hk : k ∈ vs
      · cases e : (wipeB ρ vs)[k]? with
        | none => rw [e] at h; cases h
        | some b => rw [e, wipeB_in hk e] at h; cases h
      · rw [wipeB_out hk] at h; exact ⟨hk, h⟩
    obtain ⟨n1, o1⟩ := out i h1
    obtain ⟨n2, o2⟩ := out j h2
    rw [wipe_out n1] at h3
    rw [wipe_out n2] at h4
    exact s.apart i j p o1 o2 h3 h4
  sub := s.sub
  al := s.al
theorem StR.rest {ρ1 : List B} (hl1 : σ.length = ρ1.length) (hv : ∀ (i : Nat), i ∈ vs → ∀ d, ρ1[i]? = some (.va d) → ∃ v, σ[i]? = some (some v) ∧ Rep K O H' v d) (no : noOw ρ1 vs = true) (s : StR K O W (L2.wipe σ vs) H' ρ) : StR K O W σ H' (restB ρ1 ρ vs) := by
  have hl : ρ.length = ρ1.length := by rw [← s.len, wipe_length, hl1]
  have nn : ∀ i ∈ vs, isOw ρ1[i]? = false := fun i hi => by
    have := List.all_eq_true.mp no i hi
    simpa using this
  have out : ∀ k, isOw (restB ρ1 ρ vs)[k]? = true → k ∉ vs ∧ isOw ρ[k]? = true := fun k h => by
    by_cases hk : k ∈ vs
    · rw [restB_in hl hk, nn k hk] at h; cases h
    · rw [restB_out hk] at h; exact ⟨hk, h⟩
  refine ⟨by rw [restB_length, hl]; exact hl1, fun i b eb => ?_, fun i j p h1 h2 h3 h4 => ?_, s.sub, s.al⟩
  · by_cases hi : i ∈ vs
    · rw [restB_in hl hi] at eb
      cases b with
      | un => exact trivial
      | va d => exact hv i hi d eb
      | ow k ds =>
        have := nn i hi
        rw [eb] at this
        cases this
    · rw [restB_out hi] at eb
      have q := s.slot i b eb
      rw [wipe_out hi] at q
      exact q
  · obtain ⟨n1, o1⟩ := out i h1
    obtain ⟨n2, o2⟩ := out j h2
    refine s.apart i j p o1 o2 ?_ ?_
    · rw [wipe_out n1]; exact h3
    · rw [wipe_out n2]; exact h4
theorem StR.lessO {O' : Addr → Prop} (s : StR K O' W σ H ρ) (h : ∀ a, O a → O' a) (hw : ∀ a, W a → O a) : StR K O W σ H ρ where
  len := s.len
  slot := fun i b e => by
    have q := s.slot i b e
    cases b with
    | un => exact trivial
    | va d =>
      obtain ⟨v, h1, h2⟩ := q
      exact ⟨v, h1, h2.less h⟩
    | ow k ds =>
      obtain ⟨p, us, h1, h2, h3, h4⟩ := q
      exact ⟨p, us, h1, h2, h3, h4.less h⟩
  apart := s.apart
  sub := hw
  al := fun a z => s.al a (h a z)
theorem StR.moreW {W' : Addr → Prop} (s : StR K O W σ H ρ) (h : ∀ a, W a → W' a) (hw : ∀ a, W' a → O a) : StR K O W' σ H ρ where
  len := s.len
  slot := fun i b e => by
    have q := s.slot i b e
    cases b with
    | un => exact trivial
    | va d => exact q
    | ow k ds =>
      obtain ⟨p, us, h1, h2, h3, h4⟩ := q
      exact ⟨p, us, h1, h _ h2, h3, h4⟩
  apart := s.apart
  sub := hw
  al := s.al
theorem StR.growO {a : Addr} {o : HO} (s : StR K O W σ H ρ) (n : H a = none) : StR K (fun b => O b ∨ b = a) W σ (upd H a o) ρ := by
  have sm : Same H (upd H a o) := same_new n
  refine ⟨s.len, fun i b e => ?_, s.apart, fun b z => .inl (s.sub b z), fun b z => ?_⟩
  · have q := s.slot i b e
    cases b with
    | un => exact trivial
    | va d =>
      obtain ⟨v, h1, h2⟩ := q
      exact ⟨v, h1, (h2.shun fun b z => z.elim .inl fun e => .inr (by rw [e]; exact n)).same sm⟩
    | ow k ds =>
      obtain ⟨p, vs, h1, h2, h3, h4⟩ := q
      exact ⟨p, vs, h1, h2, sm p _ h3, (h4.shun fun b z => z.elim .inl fun e => .inr (by rw [e]; exact n)).same sm⟩
  · rcases z with z | z
    · cases q : H b with
      | none => exact absurd q (s.al b z)
      | some u => rw [sm b u q]; exact fun z => nomatch z
    · rw [z, upd_same]; exact fun z => nomatch z
theorem StR.side {a : Addr} {o : HO} (s : StR K (fun b => O b ∨ b = a) W σ H ρ) (nw : ¬ W a) : StR K (fun b => O b ∨ b = a) W σ (upd H a o) ρ where
  len := s.len
  slot := fun i b e => by
    have q := s.slot i b e
    have ex : Ext (fun b => b = a) H (upd H a o) := fun c u n h => by rw [upd_ne n]; exact h
    cases b with
    | un => exact trivial
    | va d =>
      obtain ⟨v, h1, h2⟩ := q
      exact ⟨v, h1, h2.ext ex fun b z => .inr z⟩
    | ow k ds =>
      obtain ⟨p, us, h1, h2, h3, h4⟩ := q
      refine ⟨p, us, h1, h2, ?_, h4.ext ex fun b z => .inr z⟩
      rw [upd_ne (fun (z : p = a) => nw (z ▸ h2))]
      exact h3
  apart := s.apart
  sub := s.sub
  al := fun b z => by
    by_cases e : b = a
    · rw [e, upd_same]; exact fun z => nomatch z
    · rw [upd_ne e]; exact s.al b z
end
structure LcI (X : Cx) (vs : List Nat) (tg : D → Option (List (Nat × D))) (tt : BS) (te : ES) (ds : List D) (O W : Addr → Prop) (σ : St) (H1 : Hp) (ρ1 : List B) (Dd : Addr) (pp : Bool) (fin : List D × List B → Prop) (exn : Str → D → Prop) (i : Nat) (H : Hp) (ρ : List B) (accV : List V) (acc : List D) : Prop where
  st : StR X.K (fun a => O a ∨ a = Dd) W (L2.wipe σ vs) H ρ
  at_ : H Dd = some (.lst accV)
  rs : Reps X.K (fun a => O a ∨ a = Dd) H accV acc
  kd : Kd (wipeB ρ1 vs) ρ
  pure_ : pp = true → ρ = wipeB ρ1 vs ∧ Same H1 H
  ext : Ext W H1 H
  rest : Wr (lcGo vs tg tt te (ds.drop i) ρ acc) fin exn
theorem Kd.put {ρ : List B} {vs : List Nat} {us : List (Nat × D)} (h : ∀ i ∈ us.map (·.1), i ∈ vs) {ρ0 : List B} (k : Kd (wipeB ρ0 vs) ρ) : Kd (wipeB ρ0 vs) (wipeB (putB ρ us) vs) := fun i => by
  by_cases hi : i ∈ vs
  · have un : ∀ (r : List B), kindB (wipeB r vs)[i]? = none := fun r => by
      cases e : (wipeB r vs)[i]? with
      | none => rfl
      | some b => rw [wipeB_in hi e]; rfl
    rw [un, un]
  · rw [wipeB_out hi, putB_out fun z => hi (h i z)]
    exact k i
theorem Kd.wipe' {ρ ρ' ρ0 : List B} {vs : List Nat} (k : Kd ρ ρ') (k0 : Kd (wipeB ρ0 vs) (wipeB ρ vs)) : Kd (wipeB ρ0 vs) (wipeB ρ' vs) := fun i => by
  by_cases hi : i ∈ vs
  · have un : ∀ (r : List B), kindB (wipeB r vs)[i]? = none := fun r => by
      cases e : (wipeB r vs)[i]? with
      | none => rfl
      | some b => rw [wipeB_in hi e]; rfl
    rw [un, un]
  · have := k0 i
    rw [wipeB_out hi] at this
    rw [wipeB_out hi, k i]
    exact this
theorem same_side {H1 H : Hp} {Dd : Addr} {o : HO} (n : H1 Dd = none) (s : Same H1 H) : Same H1 (upd H Dd o) := fun b u h => by
  rw [upd_ne (ne_of_none h n)]
  exact s b u h
theorem ext_side {W : Addr → Prop} {H1 H : Hp} {Dd : Addr} {o : HO} (n : H1 Dd = none) (s : Ext W H1 H) : Ext W H1 (upd H Dd o) := fun b u w h => by
  rw [upd_ne (ne_of_none h n)]
  exact s b u w h
theorem lc_rd {X : Cx} {p pt pe w : Bool} {is vs : List Nat} {wi : TI} {it : AS} {tg : D → Option (List (Nat × D))} {tt : BS} {te : ES} {E : XK} {ee : XK}
    (ri : ∀ (O W : Addr → Prop) (σ : St) (H : Hp) (ρ : List B) (R : It → Hp → Prop), StR X.K O W σ H ρ →
      Wr (it ρ) (fun r => ∀ J G H', Post p X.K O W σ H H' ρ r.2 → ItOk X.K w J r.1 G → G O H' → R J H') (EX X E O W H) → wi σ H R)
    (hw : (!w || (pt && pe)) = true) (hv : ∀ i ∈ is, i ∈ vs)
    {O W : Addr → Prop} {σ : St} {H : Hp} {ρ : List B} {Q : VK} (s : StR X.K O W σ H ρ)
    (h : Wr (oLc vs it tg tt te ρ) (fun r => ∀ q us H', H q = none → Post (p && (pt && pe)) X.K O W σ H H' ρ r.2 → StR X.K (fun a => O a ∨ a = q) (fun a => W a ∨ a = q) σ H' r.2 → H' q = some (.lst us) →
      Reps X.K (fun a => O a ∨ a = q) H' us r.1 → Q (.ref q) H') (EX X E O W H)) :
    tLc wi (tGV X is tg) (tT X E0 pt tt) (tE X E0 pe false te) vs σ H Q := by
  unfold oLc at h
  refine ri O W σ H ρ _ s (h.bind.mono (fun x hx J G H1 po ok gg => ?_) fun _ _ z => z)
  obtain ⟨ds, ρ1⟩ := x
  by_cases hno : noOw ρ1 vs = true
  case neg => rw [if_neg hno] at hx; exact hx.elim
  rw [if_pos hno] at hx
  intro Dd nD
  have s1 : StR X.K O W σ H1 ρ1 := po.st
  have nO : ¬ O Dd := fun z => s1.al Dd z nD
  have nW : ¬ W Dd := fun z => nO (s1.sub Dd z)
  let fin : List D × List B → Prop := fun y => ∀ q us H', H q = none → Post (p && (pt && pe)) X.K O W σ H H' ρ (restB ρ1 y.2 vs) → StR X.K (fun a => O a ∨ a = q) (fun a => W a ∨ a = q) σ H' (restB ρ1 y.2 vs) → H' q = some (.lst us) → Reps X.K (fun a => O a ∨ a = q) H' us y.1 → Q (.ref q) H'
  have hx' : Wr (lcGo vs tg tt te ds (wipeB ρ1 vs) []) fin (fun _ _ => True) := by
    refine (Wr.bind hx).mono (fun y hy => hy) fun _ _ _ => trivial
  refine ⟨fun i m H' => m = ds.length - i ∧ i ≤ ds.length ∧ ∃ ρ' accV acc, LcI X vs tg tt te ds O W σ H1 ρ1 Dd (pt && pe) fin (fun _ _ => True) i H' ρ' accV acc, ⟨ds.length, rfl, Nat.zero_le _, wipeB ρ1 vs, [], [], ?_⟩, ?_⟩
  · exact ⟨(s1.growO nD).wipe, upd_same, .nil, fun _ => rfl, fun _ => ⟨rfl, same_new nD⟩, Ext.of_same (same_new nD), hx'⟩
  · rintro i m H2 ⟨rfl, hi, ρ2, accV, acc, L⟩
    have gg2 : G (fun a => O a ∨ a = Dd) H2 := by
      cases w with
      | false => exact ok.keep O W H1 _ H2 gg (fun a z => .inr ⟨rfl, s1.sub a z⟩) L.ext fun a z => z.imp id fun e => by rw [e]; exact nD
      | true =>
        have pp : (pt && pe) = true := hw
        exact ok.keep O (fun _ => False) H1 _ H2 gg (fun a z => z.elim) (Ext.of_same (L.pure_ pp).2) fun a z => z.imp id fun e => by rw [e]; exact nD
    by_cases hlt : i < ds.length
    · have ed : ds.drop i = ds[i] :: ds.drop (i + 1) := List.drop_eq_getElem_cons hlt
      have hr := L.rest
      rw [ed] at hr
      unfold lcGo at hr
      refine .inr ⟨ok.goes _ i H2 hlt gg2, fun H' => i + 1 ≤ ds.length ∧ ∃ ρ' accV acc, LcI X vs tg tt te ds O W σ H1 ρ1 Dd (pt && pe) fin (fun _ _ => True) (i + 1) H' ρ' accV acc, fun H' n => ⟨ds.length - (i + 1), by omega, rfl, n.1, n.2⟩, fun v H3 y => ?_⟩
      obtain ⟨sm, rx⟩ := ok.yld _ i H2 v H3 ds[i] L.st.al gg2 (List.getElem?_eq_getElem hlt) y
      have st3 : StR X.K (fun a => O a ∨ a = Dd) W (L2.wipe σ vs) H3 ρ2 := L.st.same sm
      cases ef : tg ds[i] with
      | none => rw [ef] at hr; exact hr.elim
      | some as =>
        simp only [ef] at hr
        refine ⟨_, ds[i], as, rx, ef, fun us pu iu => ?_⟩
        have hus : ∀ j ∈ us.map (·.1), j ∈ vs := fun j hj => hv j (iu ▸ hj)
        have has : ∀ j ∈ as.map (·.1), j ∈ vs := fun j hj => hus j (by rw [← puts_slots pu]; exact hj)
        refine ⟨wipe_put hus, ?_⟩
        have st4 := StR.puts pu st3
        refine ⟨_, W, putB ρ2 as, st4, (Wr.noX (Wr.bind hr)).mono (fun x hx H4 po4 => ?_) fun _ _ z => z⟩
        obtain ⟨k, ρ4⟩ := x
        have ext4 : Ext W H1 H4 := (L.ext.trans (Ext.of_same sm)).trans po4.ext
        have kd4 : Kd (wipeB ρ1 vs) (wipeB ρ4 vs) := Kd.wipe' po4.kd (L.kd.put has)
        have nDd : ∀ {H5 : Hp}, Ext W H2 H5 → H5 Dd = some (.lst accV) := fun e => e Dd _ nW L.at_
        cases k with
        | false =>
          refine iteF ⟨hlt, wipeB ρ4 vs, accV, acc, ?_⟩
          have wst := po4.st.wipe (vs := vs)
          rw [wipe_put hus] at wst
          refine ⟨wst, nDd ((Ext.of_same sm).trans po4.ext), (L.rs.same sm).ext po4.ext po4.st.sub, kd4, fun pp => ?_, ext4, hx⟩
          obtain ⟨q1, q2⟩ := Bool.and_eq_true_iff.mp pp
          obtain ⟨sm4, e4⟩ := po4.pure_ q1
          obtain ⟨e0, sm0⟩ := L.pure_ pp
          refine ⟨?_, (sm0.trans sm).trans sm4⟩
          have e4 : ρ4 = putB ρ2 as := e4
          rw [e4, e0, wipeB_put has]
        | true =>
          refine iteT ⟨_, W, ρ4, po4.st, (Wr.noX (Wr.bind hx)).mono (fun y hy yv H5 po5 ry => ?_) fun _ _ z => z⟩
          obtain ⟨dy, ρ5⟩ := y
          have at5 : H5 Dd = some (.lst accV) := nDd (((Ext.of_same sm).trans po4.ext).trans po5.ext)
          have rs5 : Reps X.K (fun a => O a ∨ a = Dd) H5 accV acc := ((L.rs.same sm).ext po4.ext po4.st.sub).ext po5.ext po5.st.sub
          by_cases hz : acc.length < sizeLine
          case neg =>
            have hy : Wr (if acc.length < sizeLine then lcGo vs tg tt te (ds.drop (i + 1)) (wipeB ρ5 vs) (acc ++ [dy]) else .bad) fin (fun _ _ => True) := hy
            rw [if_neg hz] at hy
            exact hy.elim
          have hy : Wr (lcGo vs tg tt te (ds.drop (i + 1)) (wipeB ρ5 vs) (acc ++ [dy])) fin (fun _ _ => True) := by
            have hy : Wr (if acc.length < sizeLine then lcGo vs tg tt te (ds.drop (i + 1)) (wipeB ρ5 vs) (acc ++ [dy]) else .bad) fin (fun _ _ => True) := hy
            rw [if_pos hz] at hy
            exact hy
          refine ⟨accV, at5, by rw [rs5.length]; exact hz, hlt, wipeB ρ5 vs, accV ++ [yv], acc ++ [dy], ?_⟩
          have wst := po5.st.wipe (vs := vs)
          rw [wipe_put hus] at wst
          have ex : Ext (fun b => b = Dd) H5 (upd H5 Dd (.lst (accV ++ [yv]))) := fun c u n h => by rw [upd_ne n]; exact h
          refine ⟨wst.side nW, upd_same, (rs5.append (Reps.one ry.strict)).ext ex fun a z => .inr z, Kd.wipe' po5.kd kd4, fun pp => ?_, ext_side nD (ext4.trans po5.ext), hy⟩
          obtain ⟨q1, q2⟩ := Bool.and_eq_true_iff.mp pp
          obtain ⟨sm4, e4⟩ := po4.pure_ q1
          obtain ⟨sm5, e5⟩ := po5.pure_ q2
          obtain ⟨e0, sm0⟩ := L.pure_ pp
          have e4 : ρ4 = putB ρ2 as := e4
          have e5 : ρ5 = ρ4 := e5
          exact ⟨by rw [e5, e4, e0, wipeB_put has], same_side nD (((sm0.trans sm).trans sm4).trans sm5)⟩
    · have e : i = ds.length := by omega
      subst e
      have hr := L.rest
      rw [List.drop_length] at hr
      refine .inl ⟨ok.stops _ H2 gg2, ?_⟩
      have st' : StR X.K O W (L2.wipe σ vs) H2 ρ2 := L.st.lessO (fun a z => .inl z) s1.sub
      have fin1 : StR X.K O W σ H2 (restB ρ1 ρ2 vs) := StR.rest s1.len (fun i hi d e => by
        obtain ⟨v, h1, h2⟩ := s1.slot i _ e
        exact ⟨v, h1, h2.ext L.ext s1.sub⟩) hno st'
      have fin2 : StR X.K (fun a => O a ∨ a = Dd) W σ H2 (restB ρ1 ρ2 vs) := StR.rest s1.len (fun i hi d e => by
        obtain ⟨v, h1, h2⟩ := s1.slot i _ e
        exact ⟨v, h1, (h2.shun (O' := fun a => O a ∨ a = Dd) fun b z => z.imp id fun e => by rw [e]; exact nD).ext L.ext fun a z => .inl (s1.sub a z)⟩) hno L.st
      have hl : ρ2.length = ρ1.length := by rw [← L.st.len, wipe_length, s1.len]
      have kd : Kd ρ1 (restB ρ1 ρ2 vs) := fun i => by
        by_cases hi : i ∈ vs
        · rw [restB_in hl hi]
        · have := L.kd i
          rw [wipeB_out hi] at this
          rw [restB_out hi, this]
      have po2 : Post (pt && pe) X.K O W σ H1 H2 ρ1 (restB ρ1 ρ2 vs) := ⟨fin1, L.ext, kd, fun pp => by
        obtain ⟨e0, sm0⟩ := L.pure_ pp
        refine ⟨sm0, ext_get fun i => ?_⟩
        by_cases hi : i ∈ vs
        · rw [restB_in hl hi]
        · rw [restB_out hi, e0, wipeB_out hi]⟩
      exact hr Dd accV H2 (po.free' nD) (po.trans po2) (fin2.moreW (fun a z => .inl z) fun a z => z.imp (s1.sub a) id) L.at_ L.rs
section
variable {X : Cx} {E : XK} {p pt pe w : Bool} {is vs : List Nat} {elt tgt iter : Expr} {ifs : List Expr} {scope : Scope} {own : List (Str × Nat)} {it : AS} {tg : D → Option (List (Nat × D))} {tt : BS} {te : ES} {pos spos py : Pos}
theorem eo_lc (own : List (Str × Nat)) (hc : X.calm = true) (hN : X.N.Nodup) (hi : IV X E p w tgt iter it) (ok : BlkOk X.N X.env.scope scope own) (hvs : own.map (·.2) = vs)
    (hg : ∀ (s : Shared) (H : Hp) (C : Addr) (cl : List (Str × Addr)) (fp : List Addr), GV (X.blk s H scope (compEnvC scope cl C X.env) fp) is tgt tg)
    (ht : ∀ (s : Shared) (H : Hp) (C : Addr) (cl : List (Str × Addr)) (fp : List Addr), TsV (X.blk s H scope (compEnvC scope cl C X.env) fp) E0 pt ifs tt)
    (he : ∀ (s : Shared) (H : Hp) (C : Addr) (cl : List (Str × Addr)) (fp : List Addr), EV (X.blk s H scope (compEnvC scope cl C X.env) fp) E0 pe false elt te)
    (hw : (!w || (pt && pe)) = true := by rfl) (hv : ∀ i ∈ is, i ∈ vs := by decide) (hs : ∀ x, foldedSetIterable iter X.env x = pure x := by intro _; rfl) :
    EO X E (p && (pt && pe)) (.ListComp elt [⟨tgt, iter, ifs, 0⟩] scope pos) (oLc vs it tg tt te) := by
  obtain ⟨wi, pi, ri⟩ := hi.ex
  subst hvs
  refine ⟨_, pe_lc hc hN pi ok (g := tGV X is tg) (tt := tT X E0 pt tt) (te := tE X E0 pe false te) (fun s H C cl fp => (hg s H C cl fp).pg) (fun s H C cl fp => (ht s H C cl fp).run) (fun s H C cl fp => (he s H C cl fp).pe) hs, fun O W σ H ρ Q s h => ?_⟩
  exact lc_rd (ee := E) ri hw hv s h
end
end RT
namespace RT
open PySem PySem.Spec PyProof.Rows L2
section
variable {X : Cx} {E : XK} {p q pt pe w : Bool} {is vs : List Nat} {e elt tgt iter : Expr} {ifs : List Expr} {scope : Scope} {own : List (Str × Nat)} {it ar : AS} {fe : ES} {tg : D → Option (List (Nat × D))} {tt : BS} {te : ES} {pos pos' spos py : Pos}
theorem ss_setO (i : Nat) {x : Str} (h : EO X E p e ar) (hN : X.N.Nodup) (hi : X.N[i]? = some x := by rfl) (hx : Loc X.env.scope x := by first | exact Or.inl rfl | exact Or.inr rfl) (hs : swapsWith e (some (.Name x pos')) pos.line X.env = pure false := by rfl)
    (hf : X.fn x = true ∨ X.env.scope.names.lookup x = some .local := by first | exact .inl rfl | exact .inr rfl) : SS X E (.Assign [.Name x pos'] e pos) (sSetO i ar) := by
  obtain ⟨t, pt, rt⟩ := h.ex
  refine ⟨_, ps_set hN hi hx pt hs hf, fun b O W De σ H ρ s h => ?_⟩
  refine rt O W σ H ρ _ s.st ((FlOk.rs s h).mono (fun x hx q us H' n po st hq r => ?_) fun _ _ z => z)
  obtain ⟨s', t'⟩ := s.putO (i := i) n po st hq r
  exact hx _ _ _ H' s' t'
theorem lc_ss {wi : TI} (i : Nat) {y : Str}
    (ri : ∀ (O W : Addr → Prop) (σ : St) (H : Hp) (ρ : List B) (R : It → Hp → Prop), StR X.K O W σ H ρ →
      Wr (it ρ) (fun r => ∀ J G H', Post p X.K O W σ H H' ρ r.2 → ItOk X.K w J r.1 G → G O H' → R J H') (EX X E O W H) → wi σ H R)
    (hw : (!w || (pt && pe)) = true) (hv : ∀ i ∈ is, i ∈ vs) {b : Bs} {O W : Addr → Prop} {De : Ends} {σ : St} {H : Hp} {ρ : List B} (s : SI X.K b O W σ H ρ) (h : FlOk X E b O W H De (sSetO i (oLc vs it tg tt te) ρ)) :
    tAsg (tLc wi (tGV X is tg) (tT X E0 pt tt) (tE X E0 pe false te) vs) (gName i) De σ H := by
  refine lc_rd (ee := E) ri hw hv s.st ((FlOk.rs s h).mono (fun x hx q us H' n po st hq r => ?_) fun _ _ z => z)
  obtain ⟨s', t'⟩ := s.putO (i := i) n po st hq r
  exact hx _ _ _ H' s' t'
theorem lc_ssF {wi : TI} (i : Nat) {y : Str}
    (ri : ∀ (O W : Addr → Prop) (σ : St) (H : Hp) (ρ : List B) (R : It → Hp → Prop), StR X.K O W σ H ρ →
      Wr (it ρ) (fun r => ∀ J G H', Post p X.K O W σ H H' ρ r.2 → ItOk X.K w J r.1 G → G O H' → R J H') (EX X E O W H) → wi σ H R)
    (hw : (!w || (pt && pe)) = true) (hv : ∀ i ∈ is, i ∈ vs) {b : Bs} {O W : Addr → Prop} {De : Ends} {σ : St} {H : Hp} {ρ : List B} (s : SI X.K b O W σ H ρ) (h : FlOk X E b O W H De (sSet i (eO (oLc vs it tg tt te)) ρ)) :
    tAsg (tLc wi (tGV X is tg) (tT X E0 pt tt) (tE X E0 pe false te) vs) (gName i) De σ H := by
  refine lc_rd (ee := E) ri hw hv s.st ((FlOk.rs s h).bind.mono (fun x hx q us H' n po st hq r => ?_) fun _ _ z => z)
  exact hx O W _ H' ((s.post po).put (.lst (.inl ⟨.inl hq, fun z => s.st.al q z n⟩) (r.less fun a z => .inl z))) (s.tr po)
theorem ss_setLcO (i : Nat) {y : Str} (own : List (Str × Nat)) (hc : X.calm = true) (hN : X.N.Nodup) (hsw : swapsWith (.ListComp elt [⟨tgt, iter, ifs, 0⟩] scope pos) (some (.Name y py)) spos.line X.env = pure true)
    (hi : IV X E p w tgt iter it) (ok : BlkOk X.N X.env.scope scope own) (hvs : own.map (·.2) = vs)
    (hg : ∀ (s : Shared) (H : Hp) (C : Addr) (cl : List (Str × Addr)) (fp : List Addr), GV (X.blk s H scope (compEnvC scope cl C X.env) fp) is tgt tg)
    (ht : ∀ (s : Shared) (H : Hp) (C : Addr) (cl : List (Str × Addr)) (fp : List Addr), TsV (X.blk s H scope (compEnvC scope cl C X.env) fp) E0 pt ifs tt)
    (he : ∀ (s : Shared) (H : Hp) (C : Addr) (cl : List (Str × Addr)) (fp : List Addr), EV (X.blk s H scope (compEnvC scope cl C X.env) fp) E0 pe false elt te)
    (hyi : X.N[i]? = some y := by rfl) (hyl : X.env.scope.names.lookup y = some .local := by rfl)
    (hw : (!w || (pt && pe)) = true := by rfl) (hv : ∀ i ∈ is, i ∈ vs := by decide) (hs : ∀ x, foldedSetIterable iter X.env x = pure x := by intro _; rfl) :
    SS X E (.Assign [.Name y py] (.ListComp elt [⟨tgt, iter, ifs, 0⟩] scope pos) spos) (sSetO i (oLc vs it tg tt te)) := by
  obtain ⟨wi, pi, ri⟩ := hi.ex
  subst hvs
  refine ⟨_, ps_setLc hc hN hyi hyl hsw pi ok (g := tGV X is tg) (tt := tT X E0 pt tt) (te := tE X E0 pe false te) (fun s H C cl fp => (hg s H C cl fp).pg) (fun s H C cl fp => (ht s H C cl fp).run) (fun s H C cl fp => (he s H C cl fp).pe) hs, fun b O W De σ H ρ s h => ?_⟩
  exact lc_ss (y := y) i ri hw hv s h
theorem ss_setLcF (i : Nat) {y : Str} (own : List (Str × Nat)) (hc : X.calm = true) (hN : X.N.Nodup) (hsw : swapsWith (.ListComp elt [⟨tgt, iter, ifs, 0⟩] scope pos) (some (.Name y py)) spos.line X.env = pure true)
    (hi : IV X E p w tgt iter it) (ok : BlkOk X.N X.env.scope scope own) (hvs : own.map (·.2) = vs)
    (hg : ∀ (s : Shared) (H : Hp) (C : Addr) (cl : List (Str × Addr)) (fp : List Addr), GV (X.blk s H scope (compEnvC scope cl C X.env) fp) is tgt tg)
    (ht : ∀ (s : Shared) (H : Hp) (C : Addr) (cl : List (Str × Addr)) (fp : List Addr), TsV (X.blk s H scope (compEnvC scope cl C X.env) fp) E0 pt ifs tt)
    (he : ∀ (s : Shared) (H : Hp) (C : Addr) (cl : List (Str × Addr)) (fp : List Addr), EV (X.blk s H scope (compEnvC scope cl C X.env) fp) E0 pe false elt te)
    (hyi : X.N[i]? = some y := by rfl) (hyl : X.env.scope.names.lookup y = some .local := by rfl)
    (hw : (!w || (pt && pe)) = true := by rfl) (hv : ∀ i ∈ is, i ∈ vs := by decide) (hs : ∀ x, foldedSetIterable iter X.env x = pure x := by intro _; rfl) :
    SS X E (.Assign [.Name y py] (.ListComp elt [⟨tgt, iter, ifs, 0⟩] scope pos) spos) (sSet i (eO (oLc vs it tg tt te))) := by
  obtain ⟨wi, pi, ri⟩ := hi.ex
  subst hvs
  refine ⟨_, ps_setLc hc hN hyi hyl hsw pi ok (g := tGV X is tg) (tt := tT X E0 pt tt) (te := tE X E0 pe false te) (fun s H C cl fp => (hg s H C cl fp).pg) (fun s H C cl fp => (ht s H C cl fp).run) (fun s H C cl fp => (he s H C cl fp).pe) hs, fun b O W De σ H ρ s h => ?_⟩
  exact lc_ssF (y := y) i ri hw hv s h
theorem StR.wr {K : PySem.W.Frag} {O W : Addr → Prop} {σ : St} {H : Hp} {ρ : List B} {i : Nat} {k : Bool} {ds es : List D} {a : Addr} {us : List V} (s : StR K O W σ H ρ) (e : ρ[i]? = some (.ow k ds)) (ea : σ[i]? = some (some (.ref a))) (r : Reps K O H us es) :
    StR K O W σ (upd H a (.lst us)) (ρ.set i (.ow k es)) ∧ Ext W H (upd H a (.lst us)) ∧ Kd ρ (ρ.set i (.ow k es)) := by
  obtain ⟨p, vs, h1, h2, h3, h4⟩ := s.slot i _ e
  rw [ea] at h1
  cases h1
  have hi : i < ρ.length := (List.getElem?_eq_some_iff.mp e).1
  have ex : Ext (fun b => b = a) H (upd H a (.lst us)) := fun c u n h => by rw [upd_ne n]; exact h
  have oa : ∀ b, b = a → O b := fun b z => by rw [z]; exact s.sub _ h2
  refine ⟨⟨by rw [List.length_set]; exact s.len, fun j c ec => ?_, fun j l q g1 g2 g3 g4 => ?_, s.sub, fun b z => ?_⟩, fun b u w h => ?_, fun j => ?_⟩
  · rcases set_some ec with ⟨e1, e2⟩ | ⟨e1, e2⟩
    · subst e1; subst e2
      exact ⟨a, us, ea, h2, upd_same, r.ext ex oa⟩
    · have q := s.slot j c e2
      cases c with
      | un => exact trivial
      | va d =>
        obtain ⟨v, g1, g2⟩ := q
        exact ⟨v, g1, g2.ext ex oa⟩
      | ow k' ds' =>
        obtain ⟨p', vs', g1, g2, g3, g4⟩ := q
        refine ⟨p', vs', g1, g2, ?_, g4.ext ex oa⟩
        have : p' ≠ a := fun z => by
          subst z
          exact e1 (s.apart i j p' (by rw [e]; rfl) (by rw [e2]; rfl) ea g1)
        rw [upd_ne this]
        exact g3
  · have ow : ∀ l, isOw (ρ.set i (.ow k es))[l]? = true → isOw ρ[l]? = true := fun l h => by
      unfold isOw at h ⊢
      rw [kind_set] at h
      split at h
      · rename_i hh
        rw [← hh.1, e]; rfl
      · exact h
    exact s.apart j l q (ow j g1) (ow l g2) g3 g4
  · by_cases z2 : b = a
    · rw [z2, upd_same]; exact fun z => nomatch z
    · rw [upd_ne z2]; exact s.al b z
  · rw [upd_ne (fun (z : b = a) => w (z ▸ h2))]
    exact h
  · rw [kind_set]
    split
    · rename_i hh
      rw [← hh.1, e]; rfl
    · rfl
def atOw (i : Nat) (ρ : List B) : Rs (Bool × List D) := match ρ[i]? with
  | some (.ow k ds) => .ok (k, ds)
  | _ => .bad
def eApp (i : Nat) (f : ES) : ES := fun ρ => (atOw i ρ).bind fun _ => (f ρ).bind fun x => (atOw i x.2).bind fun y => if y.2.length < sizeLine then .ok (.non, x.2.set i (.ow y.1 (y.2 ++ [x.1]))) else .bad
theorem atOw_ok {i : Nat} {ρ : List B} {k : Bool} {ds : List D} (h : atOw i ρ = .ok (k, ds)) : ρ[i]? = some (.ow k ds) := by
  unfold atOw at h
  cases e : ρ[i]? with
  | none => rw [e] at h; cases h
  | some b =>
    rw [e] at h
    cases b with
    | ow k ds => cases h; rfl
    | _ => cases h
theorem Wr.at {α : Type} {r : Rs α} {k : α → Prop} {e : Str → D → Prop} (h : Wr r k e) (no : ∀ c x, r ≠ .exc c x) : ∃ a, r = .ok a ∧ k a := by
  cases r with
  | ok a => exact ⟨a, rfl, h⟩
  | exc c x => exact absurd rfl (no c x)
  | bad => exact h.elim
theorem atOw_no {i : Nat} {ρ : List B} : ∀ c x, atOw i ρ ≠ .exc c x := fun c x h => by
  unfold atOw at h
  split at h <;> cases h
theorem ty_list {K : PySem.W.Frag} {H : Hp} {a : Addr} {xs : List V} (h : H a = some (.lst xs)) : tyV K "list" (.ref a) H := .inl ⟨rfl, _, SqL.of h⟩
theorem own_at {α : Type} {b : Bool} {O W : Addr → Prop} {σ : St} {H : Hp} {ρ : List B} {i : Nat} {r : Rs α} {k : α → Prop} {ex : Str → D → Prop} (s : StR X.K O W σ H ρ) (h : Wr ((atOw i ρ).bind fun _ => r) k ex) :
    Wr r k ex ∧ ∃ a us, σ[i]? = some (some (.ref a)) ∧ H a = some (.lst us) := by
  obtain ⟨y, ey, hy⟩ := (Wr.bind h).at atOw_no
  obtain ⟨a, us, h1, h2, h3, h4⟩ := s.slot i _ (atOw_ok (k := y.1) (ds := y.2) ey)
  exact ⟨hy, a, us, h1, h3⟩
theorem ev_app (i : Nat) {x : Str} {apos cpos npos : Pos} (ha : EV X E p false e fe) (hN : X.N[i]? = some x := by rfl) (hv : Vis X.env.scope x := by first | exact Or.inl rfl | exact Or.inr (Or.inl rfl) | exact Or.inr (Or.inr rfl)) (hd : (x == ("__debug__" : Str)) = false := by decide)
    (hcd : (x == ("__classdict__" : Str)) = false := by decide)
    (hbase : attributeBase (.Name x npos) "append" X.env (eval (.Name x npos) X.env) = eval (.Name x npos) X.env := by rfl)
    (hfew : ((backTo cpos (starEach (e :: []) X.env)).all (fun x => !x.1) && (backToKw cpos (keywordEach [] X.env)).all (fun x => x.1.isSome)
      && decide ((e :: ([] : List Expr)).length + ([] : List Keyword).length + (if ([] : List Keyword).isEmpty then 0 else 1) < 30)) = true := by rfl)
    (hline : (apos.endLine == cpos.line) = true := by rfl) (hs : starEach (e :: []) X.env = (false, eval e X.env) :: starEach [] X.env := by rfl) (hpl : (backTo cpos (starEach [] X.env)).any (·.1) = false := by rfl) :
    EV X E false w (.Call (.Attribute (.Name x npos) "append" apos) [e] [] cpos) (eApp i fe) := by
  obtain ⟨t, pt, rt⟩ := ha.ex
  refine ⟨_, pe_bm PySem.F.plainAttrs_list PySem.F.slot_list_append PySem.F.type_list_append (fun pins s σ H x xs v us Q I r1 r2 h => mt_append pins s σ H x xs v us Q I r1 r2 h) (pe_var (i := i) hN hv hd hcd) (pa_cons pt pa_nil hs) hbase hfew hline hs hpl, fun O W σ H ρ Q s h => ?_⟩
  obtain ⟨h, a, us0, ea, eh⟩ := own_at (b := true) s h
  refine ⟨.ref a, ea, ty_list eh, ?_⟩
  refine rt O W σ H ρ _ s (h.bind.mono (fun x hx v H1 po r => ?_) fun _ _ z => z)
  obtain ⟨y, ey, hy⟩ := (Wr.bind hx).at atOw_no
  obtain ⟨k, ds⟩ := y
  have e1 := atOw_ok ey
  obtain ⟨a', us, h1, h2, h3, h4⟩ := po.st.slot i _ e1
  rw [ea] at h1
  cases h1
  have hy : Wr (if ds.length < sizeLine then .ok (.non, x.2.set i (.ow k (ds ++ [x.1]))) else .bad) (fun r => ∀ v H', Post false X.K O W σ H H' ρ r.2 → RepW w X.K O H' v r.1 → Q v H') (EX X E O W H) := hy
  by_cases hz : ds.length < sizeLine
  · rw [if_pos hz] at hy
    refine ⟨a, us, v, rfl, rfl, h3, by rw [h4.length]; exact hz, ?_⟩
    obtain ⟨q1, q2, q3⟩ := po.st.wr e1 ea (h4.append (Reps.one r.strict))
    exact hy .non _ ⟨q1, po.ext.trans q2, fun j => (q3 j).trans (po.kd j), fun z => nomatch z⟩ (.inl .non)
  · rw [if_neg hz] at hy
    exact hy.elim
def eExt (i : Nat) (f : AS) : ES := fun ρ => (atOw i ρ).bind fun _ => (f ρ).bind fun x => (atOw i x.2).bind fun y => if y.2.length + x.1.length ≤ sizeLine then .ok (.non, x.2.set i (.ow y.1 (y.2 ++ x.1))) else .bad
theorem ev_ext (i : Nat) {x : Str} {apos cpos npos : Pos} (ha : EO X E p e ar) (hN : X.N[i]? = some x := by rfl) (hv : Vis X.env.scope x := by first | exact Or.inl rfl | exact Or.inr (Or.inl rfl) | exact Or.inr (Or.inr rfl)) (hd : (x == ("__debug__" : Str)) = false := by decide)
    (hcd : (x == ("__classdict__" : Str)) = false := by decide)
    (hbase : attributeBase (.Name x npos) "extend" X.env (eval (.Name x npos) X.env) = eval (.Name x npos) X.env := by rfl)
    (hfew : ((backTo cpos (starEach (e :: []) X.env)).all (fun x => !x.1) && (backToKw cpos (keywordEach [] X.env)).all (fun x => x.1.isSome)
      && decide ((e :: ([] : List Expr)).length + ([] : List Keyword).length + (if ([] : List Keyword).isEmpty then 0 else 1) < 30)) = true := by rfl)
    (hline : (apos.endLine == cpos.line) = true := by rfl) (hs : starEach (e :: []) X.env = (false, eval e X.env) :: starEach [] X.env := by rfl) (hpl : (backTo cpos (starEach [] X.env)).any (·.1) = false := by rfl) :
    EV X E false w (.Call (.Attribute (.Name x npos) "extend" apos) [e] [] cpos) (eExt i ar) := by
  obtain ⟨t, pt, rt⟩ := ha.ex
  refine ⟨_, pe_bm PySem.F.plainAttrs_list PySem.F.slot_list_extend PySem.F.type_list_extend (fun pins s σ H x xs v us Q I r1 r2 h => mt_extend pins s σ H x xs v us Q I r1 r2 h) (pe_var (i := i) hN hv hd hcd) (pa_cons pt pa_nil hs) hbase hfew hline hs hpl, fun O W σ H ρ Q s h => ?_⟩
  obtain ⟨h, a, us0, ea, eh⟩ := own_at (b := true) s h
  refine ⟨.ref a, ea, ty_list eh, ?_⟩
  refine rt O W σ H ρ _ s (h.bind.mono (fun x hx q ws H1 n po st hq r => ?_) fun _ _ z => z)
  obtain ⟨y, ey, hy⟩ := (Wr.bind hx).at atOw_no
  obtain ⟨k, ds⟩ := y
  have e1 := atOw_ok ey
  obtain ⟨a', us, h1, h2, h3, h4⟩ := po.st.slot i _ e1
  rw [ea] at h1
  cases h1
  have hy : Wr (if ds.length + x.1.length ≤ sizeLine then .ok (.non, x.2.set i (.ow k (ds ++ x.1))) else .bad) (fun r => ∀ v H', Post false X.K O W σ H H' ρ r.2 → RepW w X.K O H' v r.1 → Q v H') (EX X E O W H) := hy
  by_cases hz : ds.length + x.1.length ≤ sizeLine
  · rw [if_pos hz] at hy
    refine ⟨a, q, us, ws, rfl, rfl, h3, hq, by rw [h4.length, r.length]; exact hz, ?_⟩
    obtain ⟨q1, q2, q3⟩ := po.st.wr e1 ea (h4.append (r.less fun a z => .inl z))
    exact hy .non _ ⟨q1, po.ext.trans q2, fun j => (q3 j).trans (po.kd j), fun z => nomatch z⟩ (.inl .non)
  · rw [if_neg hz] at hy
    exact hy.elim
def ePop (i : Nat) : ES := fun ρ => (atOw i ρ).bind fun y => match y.2[y.2.length - 1]? with
  | some d => .ok (d, ρ.set i (.ow y.1 y.2.dropLast))
  | none => .bad
theorem Reps.dropLast {K : PySem.W.Frag} {O : Addr → Prop} {H : Hp} {vs : List V} {ds : List D} (r : Reps K O H vs ds) : Reps K O H vs.dropLast ds.dropLast := by
  rw [List.dropLast_eq_take, List.dropLast_eq_take, r.length]
  exact r.take _
theorem ev_pop (i : Nat) {x : Str} {apos cpos npos : Pos} (hN : X.N[i]? = some x := by rfl) (hv : Vis X.env.scope x := by first | exact Or.inl rfl | exact Or.inr (Or.inl rfl) | exact Or.inr (Or.inr rfl)) (hd : (x == ("__debug__" : Str)) = false := by decide)
    (hcd : (x == ("__classdict__" : Str)) = false := by decide)
    (hbase : attributeBase (.Name x npos) "pop" X.env (eval (.Name x npos) X.env) = eval (.Name x npos) X.env := by rfl) (hline : (apos.endLine == cpos.line) = true := by rfl) :
    EV X E false w (.Call (.Attribute (.Name x npos) "pop" apos) [] [] cpos) (ePop i) := by
  refine ⟨_, pe_bm0 PySem.F.plainAttrs_list PySem.F.slot_list_pop PySem.F.type_list_pop (fun pins s σ H x xs v us Q I r1 r2 h => mt_pop pins s σ H x xs v us Q I r1 r2 h) (pe_var (i := i) hN hv hd hcd) hbase hline, fun O W σ H ρ Q s h => ?_⟩
  obtain ⟨y, ey, hy⟩ := (Wr.bind h).at atOw_no
  obtain ⟨k, ds⟩ := y
  have e1 := atOw_ok ey
  obtain ⟨a, us, h1, h2, h3, h4⟩ := s.slot i _ e1
  refine ⟨.ref a, h1, ty_list h3, ?_⟩
  have hy : Wr (match ds[ds.length - 1]? with
    | some d => .ok (d, ρ.set i (.ow k ds.dropLast))
    | none => .bad) (fun r => ∀ v H', Post false X.K O W σ H H' ρ r.2 → RepW w X.K O H' v r.1 → Q v H') (EX X E O W H) := hy
  cases ed : ds[ds.length - 1]? with
  | none => rw [ed] at hy; exact hy.elim
  | some d =>
    rw [ed] at hy
    obtain ⟨v, hv, rv⟩ := h4.at_ ed
    refine ⟨a, us, v, rfl, rfl, h3, by rw [h4.length]; exact hv, ?_⟩
    obtain ⟨q1, q2, q3⟩ := s.wr e1 h1 h4.dropLast
    have ex : Ext W H (upd H a (.lst us.dropLast)) := q2
    exact hy v _ ⟨q1, q2, q3, fun z => nomatch z⟩ (.inl (rv.ext q2 s.sub))
end
end RT
namespace RT
open PySem PySem.Spec PyProof.Rows L2
structure FnG (P : Program) (w : World) (K : PySem.W.Frag) (mg : Str → Option Value) (base : Heap) (CX : CXT) (k : Nat) (f : Addr) (fd : FuncData) (ps : List Str) (sp : Sp) : Prop where
  len : ∀ vs H Q E, sp vs H Q E → vs.length = ps.length
  run : ∀ (A : Around) (outer : List Env) (s : Shared) (H : Hp) (args : Args) (us : List Value) (vs : List V) (Q : VK) (E : XK), Room k A → A.guards = some [] → Env0 P w K mg base A outer s H → BindsTo s fd args (ps.zip us) → Vals vs us → sp vs H Q E →
    codeAny (model P w) A (.call (.ref f) args) (CR CX outer P w H s Q E) s
theorem FnG.mono {P : Program} {w : World} {K : PySem.W.Frag} {mg : Str → Option Value} {base : Heap} {CX : CXT} {j k : Nat} {f : Addr} {fd : FuncData} {ps : List Str} {sp : Sp} (F : FnG P w K mg base CX j f fd ps sp) (h : j ≤ k) : FnG P w K mg base CX k f fd ps sp :=
  ⟨F.len, fun A outer s H args us vs Q E hr => F.run A outer s H args us vs Q E (hr.mono h)⟩
section
variable {X : Cx} {CX : CXT} {k : Nat} {f C : Addr} {fd : FuncData} {ps : List Str} {sp : Sp} {dvs : List V} {ds : List Value} {E : XK} {x m : Str} {p pos apos : Pos} {e o : Expr} {es : List Expr} {ta : TE} {t : TA}
theorem run_fnG {pins : List (Addr × Obj)} {σ : St} {H : Hp} {s : Shared} {Q : VK} {us : List Value} {vs : List V} (F : FnG X.prog X.w X.K X.mg X.base CX k f fd ps sp) (hr : Room k X.A) (hgd : X.A.guards = some []) (hb : Binds X.K fd ps ds) (hd : Vals dvs ds) (hx : Passes CX X E)
    (I : Inv X pins σ H s) (r : Vals vs us) (h : sp (vs ++ dvs) H Q E) : wpAny (model X.prog X.w) X.A (call (.ref f) us) (EP X pins σ Q) X.xe s := by
  have r2 : Vals (vs ++ dvs) (us ++ ds) := r.append hd
  have hl : (us ++ ds).length = ps.length := by rw [← r2.length]; exact F.len _ _ _ _ h
  refine wpAny_call (codeAny_mono (F.run X.A X.stack s H ⟨us, []⟩ (us ++ ds) (vs ++ dvs) Q E hr hgd I.env0 (hb s us I.kIn hl) r2 h) fun r s' hq => ?_)
  cases r with
  | error e => exact hx pins σ H s e s' I hq
  | ok fl =>
    cases fl with
    | ret u => exact I.after hq
    | next => exact False.elim hq
    | brk => exact False.elim hq
    | cont => exact False.elim hq
theorem pe_callG (F : FnG X.prog X.w X.K X.mg X.base CX k f fd ps sp) (hr : Room k X.A) (hgd : X.A.guards = some []) (hg : Gl X x) (hm : X.mg x = some (.ref f)) (hk : PySem.W.keepIn X.K (.ref f) = true) (hb : Binds X.K fd ps ds) (hd : Vals dvs ds) (hx : Passes CX X E)
    (ha : PA X (e :: es) t) (hdb : (x == ("__debug__" : Str)) = false := by decide) (he : starEach (e :: es) X.env = (false, eval e X.env) :: starEach es X.env := by rfl) (hpl : (backTo pos (starEach es X.env)).any (·.1) = false := by rfl) :
    PE X (.Call (.Name x p) (e :: es) [] pos) (tCall sp dvs E t) := by
  refine ⟨fun pins s σ H Q I h => ?_⟩
  refine wpAny_Call_Name_kw (ld_glob I hg hm ?_ hdb)
  refine PySem.W.callWith_K (h₀ := X.base) I.ok.mod.kin hk (thn (ha.run pos pins s σ H _ I h) fun us s1 ⟨vs, H1, I1, r, q⟩ => ⟨I1.kIn, ?_⟩) he hpl
  exact run_fnG F hr hgd hb hd hx I1 r q
theorem pe_callG0 (F : FnG X.prog X.w X.K X.mg X.base CX k f fd ps sp) (hr : Room k X.A) (hgd : X.A.guards = some []) (hg : Gl X x) (hm : X.mg x = some (.ref f)) (hk : PySem.W.keepIn X.K (.ref f) = true) (hb : Binds X.K fd ps ds) (hd : Vals dvs ds) (hx : Passes CX X E)
    (hdb : (x == ("__debug__" : Str)) = false := by decide) : PE X (.Call (.Name x p) [] [] pos) (tCall sp dvs E tNil) := by
  refine ⟨fun pins s σ H Q I h => ?_⟩
  refine wpAny_Call_Name_kw (ld_glob I hg hm ?_ hdb)
  exact PySem.W.callWith_K0 I.kIn hk (run_fnG (us := []) F hr hgd hb hd hx I .nil h)
end
abbrev FS := List B → Rs (D × List B)
def isArg : B → Bool
  | .un => false
  | .va _ => true
  | .ow k _ => k
def spF (K : PySem.W.Frag) (mg : Str → Option Value) (F : FS) : Sp := fun vs H Q E => ∃ (O W : Addr → Prop) (args : List B), StR K O W (vs.map some) H args ∧ args.all isArg = true ∧
  (∀ a, W a → ∃ i : Nat, isOw args[i]? = true ∧ vs[i]? = some (.ref a)) ∧
  Wr (F args) (fun r => ∀ v H', StR K O W (vs.map some) H' r.2 → Ext W H H' → Rep K O H' v r.1 → Kd args r.2 → Q v H')
    (fun c x => ∀ cls d H', Ext W H H' → ExcR K mg O H' c x cls d → E cls d H')
def mergeB : List B → List B → Option (List B)
  | [], _ => some []
  | .ow true _ :: as, .ow true es :: bs => (mergeB as bs).bind fun r => some (.ow true es :: r)
  | .ow true _ :: _, _ => none
  | a :: as, _ :: bs => (mergeB as bs).bind fun r => some (a :: r)
  | _ :: _, [] => none
def fnSem (n m : Nat) (g : List B → Fl) : FS := fun args => if args.length = n then match g (args ++ List.replicate m .un) with
  | .rt d ρ => (ofO (mergeB args ρ)).bind fun r => .ok (d, r)
  | .nx ρ => (ofO (mergeB args ρ)).bind fun r => .ok (.non, r)
  | .ex c x => .exc c x
  | _ => .bad
  else .bad
section
variable {K : PySem.W.Frag} {O W : Addr → Prop} {H H' : Hp}
theorem merge_len : ∀ {as bs r : List B}, mergeB as bs = some r → r.length = as.length
  | [], _, _, h => by cases h; rfl
  | .un :: as, b :: bs, _, h => by
    have h : ((mergeB as bs).bind fun r => some (.un :: r)) = some _ := h
    cases e : mergeB as bs with
    | none => rw [e] at h; cases h
    | some q => rw [e] at h; cases h; rw [List.length_cons, List.length_cons, merge_len e]
  | .va d :: as, b :: bs, _, h => by
    have h : ((mergeB as bs).bind fun r => some (.va d :: r)) = some _ := h
    cases e : mergeB as bs with
    | none => rw [e] at h; cases h
    | some q => rw [e] at h; cases h; rw [List.length_cons, List.length_cons, merge_len e]
  | .ow false d :: as, b :: bs, _, h => by
    have h : ((mergeB as bs).bind fun r => some (.ow false d :: r)) = some _ := h
    cases e : mergeB as bs with
    | none => rw [e] at h; cases h
    | some q => rw [e] at h; cases h; rw [List.length_cons, List.length_cons, merge_len e]
  | .ow true d :: as, .ow true es :: bs, _, h => by
    have h : ((mergeB as bs).bind fun r => some (.ow true es :: r)) = some _ := h
    cases e : mergeB as bs with
    | none => rw [e] at h; cases h
    | some q => rw [e] at h; cases h; rw [List.length_cons, List.length_cons, merge_len e]
  | .ow true d :: as, .un :: bs, _, h => by cases h
  | .ow true d :: as, .va _ :: bs, _, h => by cases h
  | .ow true d :: as, .ow false _ :: bs, _, h => by cases h
  | .un :: as, [], _, h => by cases h
  | .va d :: as, [], _, h => by cases h
  | .ow false d :: as, [], _, h => by cases h
  | .ow true d :: as, [], _, h => by cases h
theorem merge_at : ∀ {as bs r : List B} {i : Nat} {c : B}, mergeB as bs = some r → r[i]? = some c →
    (as[i]? = some c ∧ kindB (some c) ≠ some true) ∨ ∃ ds es, as[i]? = some (.ow true ds) ∧ bs[i]? = some (.ow true es) ∧ c = .ow true es
  | [], _, _, _, _, h, e => by cases h; simp at e
  | a :: as, [], _, _, _, h, e => by cases a with | un => cases h | va d => cases h | ow k d => cases k <;> cases h
  | a :: as, b :: bs, r, i, c, h, e => by
    have main : ∀ {x : B} {q : List B}, mergeB as bs = some q → r = x :: q → ((a = x ∧ kindB (some a) ≠ some true) ∨ ∃ ds es, a = .ow true ds ∧ b = .ow true es ∧ x = .ow true es) → ((a :: as)[i]? = some c ∧ kindB (some c) ≠ some true) ∨ ∃ ds es, (a :: as)[i]? = some (.ow true ds) ∧ (b :: bs)[i]? = some (.ow true es) ∧ c = .ow true es := fun {x q} e1 e2 e3 => by
      subst e2
      cases i with
      | zero =>
        simp at e
        subst e
        rcases e3 with ⟨e3, e4⟩ | ⟨ds, es, e3, e4, e5⟩
        · subst e3; exact .inl ⟨rfl, e4⟩
        · subst e3 e4 e5; exact .inr ⟨ds, es, rfl, rfl, rfl⟩
      | succ i =>
        have e : q[i]? = some c := by simpa using e
        have := merge_at (i := i) e1 e
        simpa using this
    cases a with
    | un =>
      have h : ((mergeB as bs).bind fun r => some (.un :: r)) = some r := h
      cases eq : mergeB as bs with
      | none => rw [eq] at h; cases h
      | some q => rw [eq] at h; cases h; exact main eq rfl (.inl ⟨rfl, fun z => nomatch z⟩)
    | va d =>
      have h : ((mergeB as bs).bind fun r => some (.va d :: r)) = some r := h
      cases eq : mergeB as bs with
      | none => rw [eq] at h; cases h
      | some q => rw [eq] at h; cases h; exact main eq rfl (.inl ⟨rfl, fun z => nomatch z⟩)
    | ow k d =>
      cases k with
      | false =>
        have h : ((mergeB as bs).bind fun r => some (.ow false d :: r)) = some r := h
        cases eq : mergeB as bs with
        | none => rw [eq] at h; cases h
        | some q => rw [eq] at h; cases h; exact main eq rfl (.inl ⟨rfl, fun z => by cases z⟩)
      | true =>
        cases b with
        | un => cases h
        | va _ => cases h
        | ow k' es =>
          cases k' with
          | false => cases h
          | true =>
            have h : ((mergeB as bs).bind fun r => some (.ow true es :: r)) = some r := h
            cases eq : mergeB as bs with
            | none => rw [eq] at h; cases h
            | some q => rw [eq] at h; cases h; exact main eq rfl (.inr ⟨_, _, rfl, rfl, rfl⟩)
end
theorem SI.start {K : PySem.W.Frag} {O W : Addr → Prop} {vs : List V} {H : Hp} {args : List B} {N : List Str} {m : Nat} (s : StR K O W (vs.map some) H args) (ha : args.all isArg = true) (hN : N.length = vs.length + m) :
    SI K ⟨vs, O, W, H⟩ O W (L2.start N vs) H (args ++ List.replicate m .un) := by
  have hl : args.length = vs.length := by rw [← s.len, List.length_map]
  have st : L2.start N vs = vs.map some ++ List.replicate m none := by unfold L2.start; rw [hN, Nat.add_sub_cancel_left]
  have atr : ∀ (i : Nat) (c : B), (args ++ List.replicate m B.un)[i]? = some c → (args[i]? = some c ∧ (vs.map some ++ List.replicate m (none : Option V))[i]? = (vs.map some)[i]?) ∨ c = .un := fun i c e => by
    by_cases hi : i < args.length
    · rw [List.getElem?_append_left hi] at e
      rw [List.getElem?_append_left (by rw [List.length_map, ← hl]; exact hi)]
      exact .inl ⟨e, rfl⟩
    · rw [List.getElem?_append_right (by omega), List.getElem?_replicate] at e
      split at e
      · exact .inr (Option.some.inj e).symm
      · cases e
  have kin : ∀ (i : Nat), isOw (args ++ List.replicate m B.un)[i]? = true → isOw args[i]? = true ∧ (vs.map some ++ List.replicate m (none : Option V))[i]? = (vs.map some)[i]? := fun i h => by
    cases e : (args ++ List.replicate m B.un)[i]? with
    | none => rw [e] at h; cases h
    | some c =>
      rcases atr i c e with ⟨e1, e2⟩ | e1
      · rw [e] at h; rw [e1]; exact ⟨h, e2⟩
      · rw [e, e1] at h; cases h
  have all : ∀ (i : Nat) (c : B), args[i]? = some c → isArg c = true := fun i c e => List.all_eq_true.mp ha c (List.mem_of_getElem? e)
  have kind : ∀ (i : Nat) (k : Bool), kindB (args ++ List.replicate m B.un)[i]? = some k → ∃ ds, args[i]? = some (.ow k ds) ∧ k = true ∧ (vs.map some ++ List.replicate m (none : Option V))[i]? = (vs.map some)[i]? := fun i k h => by
    cases e : (args ++ List.replicate m B.un)[i]? with
    | none => rw [e] at h; cases h
    | some c =>
      rcases atr i c e with ⟨e1, e2⟩ | e1
      · rw [e] at h
        cases c with
        | ow k' ds =>
          cases h
          have := all i _ e1
          exact ⟨ds, e1, this, e2⟩
        | _ => cases h
      · rw [e, e1] at h; cases h
  rw [st]
  refine ⟨⟨?_, fun i c e => ?_, fun i j p h1 h2 h3 h4 => ?_, s.sub, s.al⟩, Ext.refl _ _, s.al, fun a z => z, s.sub, fun a z => .inl z, fun i p h1 h2 => ?_, fun i h1 => ?_⟩
  · rw [List.length_append, List.length_append, List.length_replicate, List.length_replicate, List.length_map, hl]
  · rcases atr i c e with ⟨e1, e2⟩ | e1
    · rw [e2]; exact s.slot i c e1
    · rw [e1]; exact trivial
  · obtain ⟨o1, g1⟩ := kin i h1
    obtain ⟨o2, g2⟩ := kin j h2
    rw [g1] at h3
    rw [g2] at h4
    exact s.apart i j p o1 o2 h3 h4
  · obtain ⟨ds, e1, e2, _⟩ := kind i false h1
    cases e2
  · obtain ⟨ds, e1, e2, e3⟩ := kind i true h1
    obtain ⟨p, us, g1, g2, g3, g4⟩ := s.slot i _ e1
    rw [List.getElem?_map] at g1
    cases ev : vs[i]? with
    | none => rw [ev] at g1; cases g1
    | some v =>
      refine ⟨v, rfl, ?_⟩
      show (vs.map some ++ List.replicate m (none : Option V))[i]? = _
      rw [e3, List.getElem?_map, ev]
      rfl
theorem SI.done {K : PySem.W.Frag} {O W O' W' : Addr → Prop} {vs : List V} {H H' : Hp} {args r : List B} {σ' : St} {ρ' : List B} (s : StR K O W (vs.map some) H args) (hw : ∀ a, W a → ∃ i : Nat, isOw args[i]? = true ∧ vs[i]? = some (.ref a))
    (ha : args.all isArg = true) (s' : SI K ⟨vs, O, W, H⟩ O' W' σ' H' ρ') (e : mergeB args ρ' = some r) : StR K O W (vs.map some) H' r ∧ Ext W H H' ∧ Kd args r := by
  have kd : Kd args r := fun i => by
    cases er : r[i]? with
    | none =>
      have : args[i]? = none := List.getElem?_eq_none (by rw [← merge_len e]; exact List.getElem?_eq_none_iff.mp er)
      rw [this]
    | some c =>
      rcases merge_at e er with ⟨e1, _⟩ | ⟨ds, es, e1, e2, e3⟩
      · rw [e1]
      · rw [e1, e3]; rfl
  have al' : Al O H' := fun a z => s'.st.al a (s'.up a z)
  refine ⟨⟨by rw [merge_len e]; exact s.len, fun i c er => ?_, fun i j p h1 h2 h3 h4 => ?_, s.sub, al'⟩, s'.ext, kd⟩
  · rcases merge_at e er with ⟨e1, e2⟩ | ⟨ds, es, e1, e2, e3⟩
    · have q := s.slot i c e1
      cases c with
      | un => exact trivial
      | va d =>
        obtain ⟨v, g1, g2⟩ := q
        exact ⟨v, g1, g2.ext s'.ext s.sub⟩
      | ow k ds =>
        have := List.all_eq_true.mp ha _ (List.mem_of_getElem? e1)
        have : k = true := this
        subst this
        exact absurd rfl e2
    · subst e3
      obtain ⟨v, g1, g2⟩ := s'.bor i (by rw [e2]; rfl)
      obtain ⟨p, us, q1, q2, q3, q4⟩ := s'.st.slot i _ e2
      rw [g2] at q1
      cases q1
      obtain ⟨p0, us0, z1, z2, z3, z4⟩ := s.slot i _ e1
      have g1 : vs[i]? = some (.ref p) := g1
      have z0 : (vs.map some)[i]? = some (some (.ref p)) := by rw [List.getElem?_map, g1]; rfl
      rw [z0] at z1
      cases z1
      exact ⟨p, us, z0, z2, q3, q4.less s'.up⟩
  · have k1 : isOw args[i]? = true := by rw [isOw, ← kd i]; exact h1
    have k2 : isOw args[j]? = true := by rw [isOw, ← kd j]; exact h2
    exact s.apart i j p k1 k2 h3 h4
theorem fn_ofG {CX : CXT} {P : Program} {w : World} {K : PySem.W.Frag} {mg : Str → Option Value} {base : Heap} {k : Nat} {f : Addr} {name qual : Str} {params : Arguments} {body : List Stmt} {scope : Scope} {dV kV doc pm cdv ct oc : Value} {an od : Option Addr}
    {osl : Array (Option Value)} {N ps : List Str} {sp : Sp} (lk : K.lookup f = some ⟨oc, od, .func (PySem.W.fnOf name qual params body scope dV kV doc pm an cdv ct), osl⟩) (hcd : PySem.W.codeIn K cdv qual = true) (S : FnScope N ps scope)
    (len : ∀ vs H Q E, sp vs H Q E → vs.length = ps.length)
    (hbody : ∀ (A : Around) (outer : List Env) (s : Shared) (H : Hp) (vs : List V) (Q : VK) (E : XK), Room k (A.deeper (envOfC qual scope s.heap.objs.size f cdv)) → A.guards = some [] → sp vs H Q E →
      ∃ t, PSs (cxOf CX P w K mg base N qual scope f cdv A outer s H E) body t ∧ t { nx := fun _ H' => Q .non H', rt := Q } (L2.start N vs) H) :
    FnG P w K mg base CX (k + 1) f (PySem.W.fnOf name qual params body scope dV kV doc pm an cdv ct) ps sp := by
  refine ⟨len, fun A outer s H args us vs Q E hr hgd e0 hb r hsp => ?_⟩
  have hl := len _ _ _ _ hsp
  have KX : K.In s.heap := e0.mod.kin.keeps fun b o e => (e0.bs b o e).1
  have lim : s.heap.NoLimit := e0.mod.nolimit.keeps fun b o e => (e0.bs b o e).1
  have hkind : ∀ y ∈ ps.zip us, scope.names.lookup y.1 = some .local ∨ (scope.names.lookup y.1 = some .cell ∧ ((cellsFrom (s.heap.objs.size + 1) scope.names []).lookup y.1).isSome = true) := fun ⟨n, v⟩ hy => by
    rcases S.par n (List.of_mem_zip hy).1 with q | q
    · exact .inl q
    · exact .inr ⟨q, PySem.W.cellsFrom_some _ _ _ (.inl q)⟩
  refine codeAny_call_function hr.depth (KX _ _ lk) rfl S.co S.gen rfl (PySem.W.codeRec_of KX hcd) (hb _ _ _ _ ?_)
  refine wpAny_newFunctionEnv_cells S.kind hkind fun env he s1 x => ?_
  subst he
  refine ⟨lim.keeps x.toInCall.keep, codeAny_func ?_⟩
  obtain ⟨t, ht, hq⟩ := hbody A outer s H vs Q E (hr.deeper _) hgd hsp
  have I : Inv (cxOf CX P w K mg base N qual scope f cdv A outer s H E) [] (L2.start N vs) H s1 := inv_start S hr.hd e0 hl r x
  refine wpAny_mono (ht.run [] s1 (L2.start N vs) H _ I hq) (fun fl s' hs => ?_) fun e s' hs => hs
  have fin : ∀ {σ' : St} {H' : Hp} {v : V} {u : Value}, Inv (cxOf CX P w K mg base N qual scope f cdv A outer s H E) [] σ' H' s' → RelV v u → Q v H' → CE outer P w H s Q u s' :=
    fun {σ' H' v u} J rv q => ⟨v, H', J.os, J.bare, J.base, J.hok, rv, q⟩
  cases fl with
  | ret u =>
    obtain ⟨v, σ', H', J, rv, q⟩ := hs
    exact fin J rv q
  | next =>
    obtain ⟨σ', H', J, q⟩ := hs
    exact fin (v := V.non) (u := Value.none) J rfl q
  | brk =>
    obtain ⟨_, _, _, q⟩ := hs
    exact False.elim q
  | cont =>
    obtain ⟨_, _, _, q⟩ := hs
    exact False.elim q
theorem FnG.of_body {P : Program} {w : World} {K : PySem.W.Frag} {mg : Str → Option Value} {base : Heap} {x qual : Str} {params : Arguments} {body : List Stmt} {scope : Scope} {f : Addr} {fd : FuncData} {N ps : List Str} {k n m : Nat} {g : List B → Fl}
    (F : FunD K x qual params body scope [] [] f fd) (S : FnScope N ps scope) (hn : ps.length = n) (hN : N.length = n + m)
    (hbody : ∀ (cdv : Value) (A : Around) (outer : List Env) (s : Shared) (H : Hp) (E : XK), Room k (A.deeper (envOfC qual scope s.heap.objs.size f cdv)) → (A.deeper (envOfC qual scope s.heap.objs.size f cdv)).guards = some [] →
      SSs (cxOf CX0 P w K mg base N qual scope f cdv A outer s H E).nox E0 body g) : FnG P w K mg base CX0 (k + 1) f fd ps (spF K mg fun a => noX (fnSem n m g a)) := by
  obtain ⟨oc, od, dV, kV, doc, pm, an, cdv, ct, osl, rfl, lk, hcd, _, _⟩ := F.ex
  have lenA : ∀ {args : List B} {r : D × List B}, noX (fnSem n m g args) = .ok r → args.length = n := fun {args r} e => by
    unfold fnSem at e
    by_cases h : args.length = n
    · exact h
    · rw [if_neg h] at e; cases e
  refine fn_ofG lk hcd S (fun vs H Q E h => ?_) fun A outer s H vs Q E hr hgd h => ?_
  · obtain ⟨O, W, args, st, ha, hw, h⟩ := h
    cases e : noX (fnSem n m g args) with
    | ok r => rw [hn, ← lenA e, ← st.len, List.length_map]
    | exc c x => cases q : fnSem n m g args <;> rw [q] at e <;> cases e
    | bad =>
      have h : Wr (noX (fnSem n m g args)) _ _ := h
      rw [e] at h; exact h.elim
  · obtain ⟨O, W, args, st, ha, hw, h⟩ := h
    obtain ⟨t, pt, rt⟩ := (hbody cdv A outer s H E hr hgd).ex
    refine ⟨t, pt.nox, ?_⟩
    have h : Wr (noX (fnSem n m g args)) (fun r => ∀ v H', StR K O W (vs.map some) H' r.2 → Ext W H H' → Rep K O H' v r.1 → Kd args r.2 → Q v H') _ := h
    have hl : args.length = n := by
      cases e : noX (fnSem n m g args) with
      | ok r => exact lenA e
      | exc c x => cases q : fnSem n m g args <;> rw [q] at e <;> cases e
      | bad => rw [e] at h; exact h.elim
    have hv : vs.length = n := by rw [← hl, ← st.len, List.length_map]
    have s0 : SI K ⟨vs, O, W, H⟩ O W (L2.start N vs) H (args ++ List.replicate m .un) := SI.start st ha (by rw [hv, hN])
    refine rt ⟨vs, O, W, H⟩ O W _ _ H _ s0 ?_
    unfold fnSem at h
    rw [if_pos hl] at h
    have fin : ∀ {d : D} {ρ : List B}, Wr (noX ((ofO (mergeB args ρ)).bind fun r => .ok (d, r))) (fun r => ∀ v H', StR K O W (vs.map some) H' r.2 → Ext W H H' → Rep K O H' v r.1 → Kd args r.2 → Q v H') (fun c x => ∀ cls d H', Ext W H H' → ExcR K mg O H' c x cls d → E cls d H') →
        ∀ v O' W' σ' H', SI K ⟨vs, O, W, H⟩ O' W' σ' H' ρ → Rep K O' H' v d → Q v H' := fun {d ρ} q v O' W' σ' H' s' r => by
      cases em : mergeB args ρ with
      | none => rw [em] at q; exact q.elim
      | some r' =>
        rw [em] at q
        obtain ⟨q1, q2, q3⟩ := SI.done st hw ha s' em
        exact q v H' q1 q2 (r.less s'.up) q3
    cases eg : g (args ++ List.replicate m .un) with
    | nx ρ =>
      rw [eg] at h
      exact fun O' W' σ' H' s' t' => fin h .non O' W' σ' H' s' .non
    | rt d ρ =>
      rw [eg] at h
      exact fun v O' W' σ' H' s' r => fin h v O' W' σ' H' s' r
    | bk ρ => rw [eg] at h; exact h.elim
    | ct ρ => rw [eg] at h; exact h.elim
    | ex c x => rw [eg] at h; exact h.elim
    | ro ds ρ => rw [eg] at h; exact h.elim
    | bad => rw [eg] at h; exact h.elim
end RT
namespace RT
open PySem PySem.Spec PyProof.Rows L2
structure Cal (P : Program) (w : World) (K : PySem.W.Frag) (mg : Str → Option Value) (base : Heap) (k : Nat) (x : Str) (n : Nat) (F : FS) : Prop where
  ex : ∃ (f : Addr) (fd : FuncData) (ps : List Str), mg x = some (.ref f) ∧ PySem.W.keepIn K (.ref f) = true ∧ ps.length = n ∧ Binds K fd ps [] ∧ FnG P w K mg base CX0 k f fd ps (spF K mg F)
theorem Cal.mono {P : Program} {w : World} {K : PySem.W.Frag} {mg : Str → Option Value} {base : Heap} {j k : Nat} {x : Str} {n : Nat} {F : FS} (C : Cal P w K mg base j x n F) (h : j ≤ k) : Cal P w K mg base k x n F := by
  obtain ⟨f, fd, ps, h1, h2, h3, h4, h5⟩ := C.ex
  exact ⟨f, fd, ps, h1, h2, h3, h4, h5.mono h⟩
def eCall (F : FS) (ar : AS) : ES := fun ρ => (ar ρ).bind fun x => (noX (F (x.1.map .va))).bind fun y => .ok (y.1, x.2)
def eCallB (j : Nat) (F : FS) (ar : AS) : ES := fun ρ => (atOw j ρ).bind fun _ => (ar ρ).bind fun x => (atOw j x.2).bind fun z => (noX (F (.ow true z.2 :: x.1.map .va))).bind fun y => match y.2 with
  | .ow true es :: _ => .ok (y.1, x.2.set j (.ow z.1 es))
  | _ => .bad
section
variable {X : Cx} {E : XK} {p w : Bool} {k n : Nat} {x : Str} {F : FS} {e : Expr} {es : List Expr} {ar : AS} {pp pos : Pos}
theorem strArgs {K : PySem.W.Frag} {O : Addr → Prop} {H : Hp} {vs : List V} {ds : List D} (r : Reps K O H vs ds) (al : Al O H) : StR K O (fun _ => False) (vs.map some) H (ds.map .va) where
  len := by rw [List.length_map, List.length_map]; exact r.length
  slot := fun i b e => by
    rw [List.getElem?_map] at e
    cases ed : ds[i]? with
    | none => rw [ed] at e; cases e
    | some d =>
      rw [ed] at e
      cases e
      obtain ⟨v, hv, rv⟩ := r.at_ ed
      exact ⟨v, by rw [List.getElem?_map, hv]; rfl, rv⟩
  apart := fun i j q h1 _ _ _ => by
    rw [List.getElem?_map] at h1
    cases ed : ds[i]? with
    | none => rw [ed] at h1; cases h1
    | some d => rw [ed] at h1; cases h1
  sub := fun _ z => z.elim
  al := al
theorem allVa (ds : List D) : (ds.map B.va).all isArg = true := by
  rw [List.all_map]
  exact List.all_eq_true.mpr fun _ _ => rfl
theorem reps_of' {O : Addr → Prop} {H : Hp} {K : PySem.W.Frag} {vs : List V} {ds : List D} (h : Paired (RepW false K O H) vs ds) : Reps K O H vs ds := reps_of h
theorem ev_call (C : Cal X.prog X.w X.K X.mg X.base k x n F) (hr : Room k X.A) (hgd : X.A.guards = some []) (ha : AV X E p false (e :: es) ar) (hn : (e :: es).length = n := by rfl) (hg : Gl X x := by rfl) (hdb : (x == ("__debug__" : Str)) = false := by decide)
    (he : starEach (e :: es) X.env = (false, eval e X.env) :: starEach es X.env := by rfl) (hpl : (backTo pos (starEach es X.env)).any (·.1) = false := by rfl) : EV X E p w (.Call (.Name x pp) (e :: es) [] pos) (eCall F ar) := by
  obtain ⟨f, fd, ps, h1, h2, h3, h4, h5⟩ := C.ex
  obtain ⟨t, pt, rt⟩ := ha.ex
  refine ⟨_, pe_callG h5 hr hgd hg h1 h2 h4 .nil pass0 pt hdb he hpl, fun O W σ H ρ Q s h => ?_⟩
  refine rt O W σ H ρ _ s (h.bind.mono (fun x hx vs H1 po r => ?_) fun _ _ z => z)
  have rr := reps_of r
  rw [List.append_nil]
  refine ⟨O, fun _ => False, x.1.map .va, strArgs rr po.st.al, allVa _, fun _ z => z.elim, (Wr.noX (Wr.bind hx)).mono (fun y hy v H' s2 e2 r2 _ => ?_) fun _ _ z => z⟩
  have sm : Same H1 H' := fun b o h => e2 b o (fun z => z) h
  exact hy v H' (po.more sm) (.inl r2)
theorem ev_callB (j : Nat) {y : Str} {py : Pos} (C : Cal X.prog X.w X.K X.mg X.base k x n F) (hr : Room k X.A) (hgd : X.A.guards = some []) (ha : AV X E p false es ar) (hg : Gl X x := by rfl) (hdb : (x == ("__debug__" : Str)) = false := by decide)
    (hN : X.N[j]? = some y := by rfl) (hv : Vis X.env.scope y := by first | exact Or.inl rfl | exact Or.inr (Or.inl rfl) | exact Or.inr (Or.inr rfl)) (hd : (y == ("__debug__" : Str)) = false := by decide)
    (hcd : (y == ("__classdict__" : Str)) = false := by decide)
    (he : starEach (.Name y py :: es) X.env = (false, eval (.Name y py) X.env) :: starEach es X.env := by rfl) (hpl : (backTo pos (starEach es X.env)).any (·.1) = false := by rfl) : EV X E false w (.Call (.Name x pp) (.Name y py :: es) [] pos) (eCallB j F ar) := by
  obtain ⟨f, fd, ps, h1, h2, h3, h4, h5⟩ := C.ex
  obtain ⟨t, pt, rt⟩ := ha.ex
  refine ⟨_, pe_callG h5 hr hgd hg h1 h2 h4 .nil pass0 (pa_cons (pe_var (i := j) hN hv hd hcd) pt he) hdb he hpl, fun O W σ H ρ Q s h => ?_⟩
  obtain ⟨h, a, us0, ea, eh⟩ := own_at (b := true) s h
  refine ⟨.ref a, ea, ?_⟩
  refine rt O W σ H ρ _ s (h.bind.mono (fun x hx vs H1 po r => ?_) fun _ _ z => z)
  have rr := reps_of r
  obtain ⟨z, ez, hz⟩ := (Wr.bind hx).at atOw_no
  obtain ⟨kb, ds⟩ := z
  have e1 := atOw_ok ez
  obtain ⟨a', us, q1, q2, q3, q4⟩ := po.st.slot j _ e1
  rw [ea] at q1
  cases q1
  show spF X.K X.mg F ((V.ref a :: vs) ++ []) H1 Q E0
  rw [List.append_nil]
  have sA := strArgs rr po.st.al
  have stA : StR X.K O (fun b => b = a) ((V.ref a :: vs).map some) H1 (.ow true ds :: x.1.map .va) := by
    refine ⟨by simp [sA.len, rr.length], fun i c e => ?_, fun i l p g1 g2 g3 g4 => ?_, fun b z => by rw [z]; exact po.st.sub _ q2, po.st.al⟩
    · cases i with
      | zero =>
        simp at e
        subst e
        exact ⟨a, us, rfl, rfl, q3, q4⟩
      | succ i =>
        have e : (x.1.map B.va)[i]? = some c := by simpa using e
        have q := sA.slot i c e
        cases c with
        | un => exact trivial
        | va d => exact q
        | ow k' ds' =>
          rw [List.getElem?_map] at e
          cases ed : x.1[i]? with
          | none => rw [ed] at e; cases e
          | some d => rw [ed] at e; cases e
    · have z : ∀ {i : Nat}, isOw (B.ow true ds :: x.1.map B.va)[i]? = true → i = 0 := fun {i} g => by
        cases i with
        | zero => rfl
        | succ i =>
          have e0 : (B.ow true ds :: x.1.map B.va)[i + 1]? = (x.1.map B.va)[i]? := rfl
          rw [e0, List.getElem?_map] at g
          cases ed : x.1[i]? with
          | none => rw [ed] at g; cases g
          | some d => rw [ed] at g; cases g
      rw [z g1, z g2]
  refine ⟨O, fun b => b = a, .ow true ds :: x.1.map .va, stA, ?_, fun b z => ⟨0, rfl, by rw [z]; rfl⟩, (Wr.noX (Wr.bind hz)).mono (fun y hy v H' s2 e2 r2 kd2 => ?_) fun _ _ z => z⟩
  · rw [List.all_cons, allVa]; rfl
  obtain ⟨dy, as⟩ := y
  cases as with
  | nil => exact hy.elim
  | cons c as =>
    cases c with
    | un => exact hy.elim
    | va d => exact hy.elim
    | ow k' es' =>
      cases k' with
      | false => exact hy.elim
      | true =>
        have hy : ∀ v H'', Post false X.K O W σ H H'' ρ (x.2.set j (.ow kb es')) → RepW w X.K O H'' v dy → Q v H'' := hy
        obtain ⟨a2, us2, g1, g2, g3, g4⟩ := s2.slot 0 _ rfl
        have g1 : some (some (V.ref a)) = some (some (V.ref a2)) := g1
        cases g1
        have exW : Ext W H1 H' := e2.mono fun b z => by rw [z]; exact q2
        have hset : StR X.K O W σ H' (x.2.set j (.ow kb es')) ∧ Kd x.2 (x.2.set j (.ow kb es')) := by
          have hi : j < x.2.length := (List.getElem?_eq_some_iff.mp e1).1
          refine ⟨⟨by rw [List.length_set]; exact po.st.len, fun i c ec => ?_, fun i l q m1 m2 m3 m4 => ?_, po.st.sub, s2.al⟩, fun i => ?_⟩
          · rcases set_some ec with ⟨z1, z2⟩ | ⟨z1, z2⟩
            · subst z1; subst z2
              exact ⟨a, us2, ea, q2, g3, g4⟩
            · have q := po.st.slot i c z2
              cases c with
              | un => exact trivial
              | va d =>
                obtain ⟨v, m1, m2⟩ := q
                exact ⟨v, m1, m2.ext exW po.st.sub⟩
              | ow k' ds' =>
                obtain ⟨p', vs', m1, m2, m3, m4⟩ := q
                refine ⟨p', vs', m1, m2, e2 p' _ (fun z => ?_) m3, m4.ext exW po.st.sub⟩
                subst z
                exact z1 (po.st.apart j i p' (by rw [e1]; rfl) (by rw [z2]; rfl) ea m1)
          · have ow : ∀ l, isOw (x.2.set j (.ow kb es'))[l]? = true → isOw x.2[l]? = true := fun l h => by
              unfold isOw at h ⊢
              rw [kind_set] at h
              split at h
              · rename_i hh
                rw [← hh.1, e1]; rfl
              · exact h
            exact po.st.apart i l q (ow i m1) (ow l m2) m3 m4
          · rw [kind_set]
            split
            · rename_i hh
              rw [← hh.1, e1]; rfl
            · rfl
        exact hy v H' ⟨hset.1, po.ext.trans exW, fun i => (hset.2 i).trans (po.kd i), fun z => nomatch z⟩ (.inl r2)
end
end RT
namespace RT
open PySem PySem.Spec PyProof.Rows L2
theorem OpR.or' {X : Cx} {f : Value → Value → Sem Value} {r r' : R2} (h : OpR X f r) (h' : OpR X f r') : OpR X f (fun x y H Q => r x y H Q ∨ r' x y H Q) := by
  intro pins s σ H x y v u Q I rx ry q
  rcases q with q | q
  · exact h pins s σ H x y v u Q I rx ry q
  · exact h' pins s σ H x y v u Q I rx ry q
mutual
def dP : D → PyData
  | .non => .none
  | .bl b => .bool b
  | .int i => .int i
  | .str x => .str x
  | .tup xs => .tuple (dPs xs)
  | .lst xs => .list (dPs xs)
def dPs : List D → List PyData
  | [] => []
  | x :: xs => dP x :: dPs xs
end
section
variable {K : PySem.W.Frag} {O : Addr → Prop} {H : Hp} {w : Bool}
mutual
theorem Rep.dp {v : V} {d : D} (r : Rep K O H v d) : Dp K H v (dP d) := by
  cases r with
  | non => exact .non
  | bl b => exact .bl b
  | int i => exact .int i
  | str x => exact .str x
  | tup h t => exact .tup h.sq (Reps.dp t)
  | lst h t => exact .lst h.sq (Reps.dp t)
theorem Reps.dp {vs : List V} {ds : List D} (r : Reps K O H vs ds) : DpAll K H vs (dPs ds) := by
  cases r with
  | nil => exact .nil
  | cons h t => exact .cons (Rep.dp h) (Reps.dp t)
end
theorem RepW.dp {v : V} {d : D} (r : RepW w K O H v d) : Dp K H v (dP d) := by
  rcases r with r | ⟨_, a, vs, ds, rfl, rfl, h3, h4⟩
  · exact r.dp
  · exact .lst h3.sq h4.dp
end
def eqD (a b : D) : Option Bool := if SeqAt.shaped (dP a) = true ∧ SeqAt.shaped (dP b) = true then some (PyData.eqv (dP a) (dP b)) else none
def dEq (a b : D) : Option D := match a, b with
  | .int i, .int j => some (.bl (i == j))
  | .bl i, .bl j => some (.bl (i == j))
  | .str i, .str j => some (.bl (i == j))
  | a, b => (eqD a b).map .bl
def dNe (a b : D) : Option D := match a, b with
  | .int i, .int j => some (.bl (!(i == j)))
  | .bl i, .bl j => some (.bl (!(i == j)))
  | .str i, .str j => some (.bl (!(i == j)))
  | a, b => (eqD a b).map fun k => .bl (!k)
theorem eqD_some {a b : D} {k : Bool} (h : eqD a b = some k) : SeqAt.shaped (dP a) = true ∧ SeqAt.shaped (dP b) = true ∧ PyData.eqv (dP a) (dP b) = k := by
  unfold eqD at h
  split at h
  · rename_i hh
    exact ⟨hh.1, hh.2, Option.some.inj h⟩
  · cases h
section
variable {K : PySem.W.Frag} {w w1 w2 : Bool} {X : Cx}
def rEqA (K : PySem.W.Frag) : R2 := fun x y H Q => rEq x y H Q ∨ rEqD K x y H Q
def rNeA (K : PySem.W.Frag) : R2 := fun x y H Q => rNe x y H Q ∨ rNeD K x y H Q
theorem op_eqA (hu : X.A.units + 64 < cLine) : OpR X (compareOp .Eq) (rEqA X.K) := OpR.or' op_eq (op_eqD hu)
theorem op_neA (hu : X.A.units + 64 < cLine) : OpR X (compareOp .NotEq) (rNeA X.K) := OpR.or' op_ne (op_neD hu)
theorem od_eqD {a b : D} {x y : V} {O : Addr → Prop} {H : Hp} {Q : VK} {k : Bool} (r1 : RepW w1 K O H x a) (r2 : RepW w2 K O H y b) (e : eqD a b = some k) (hq : Q (.bl k) H) : rEqA K x y H Q := by
  obtain ⟨h1, h2, h3⟩ := eqD_some e
  exact .inr ⟨_, _, r1.dp, r2.dp, h1, h2, by rw [h3]; exact hq⟩
theorem od_neD {a b : D} {x y : V} {O : Addr → Prop} {H : Hp} {Q : VK} {k : Bool} (r1 : RepW w1 K O H x a) (r2 : RepW w2 K O H y b) (e : eqD a b = some k) (hq : Q (.bl (!k)) H) : rNeA K x y H Q := by
  obtain ⟨h1, h2, h3⟩ := eqD_some e
  exact .inr ⟨_, _, r1.dp, r2.dp, h1, h2, by rw [h3]; exact hq⟩
theorem od_eq : Od K w1 w2 (rEqA K) dEq := by
  intro O H x y a b c Q al r1 r2 e hq
  have fin : ∀ {k : Option Bool}, k = eqD a b → k.map D.bl = some c → rEqA K x y H Q := fun {k} hk e => by
    cases k with
    | none => cases e
    | some k => cases e; exact od_eqD r1 r2 hk.symm (hq _ H (fun _ _ h => h) (.bl k))
  have refl : Same H H := fun _ _ h => h
  cases a <;> cases b <;> first
    | exact fin rfl e
    | (cases e
       first
       | (cases r1.int_inv; cases r2.int_inv; exact .inl ⟨rfl, by rw [dec_int]; exact hq _ H refl (.bl _)⟩)
       | (cases r1.bl_inv; cases r2.bl_inv; exact .inl ⟨rfl, by rw [dec_bl]; exact hq _ H refl (.bl _)⟩)
       | (cases r1.str_inv; cases r2.str_inv; exact .inl ⟨rfl, by rw [dec_str]; exact hq _ H refl (.bl _)⟩))
theorem od_ne : Od K w1 w2 (rNeA K) dNe := by
  intro O H x y a b c Q al r1 r2 e hq
  have fin : ∀ {k : Option Bool}, k = eqD a b → k.map (fun k => D.bl (!k)) = some c → rNeA K x y H Q := fun {k} hk e => by
    cases k with
    | none => cases e
    | some k => cases e; exact od_neD r1 r2 hk.symm (hq _ H (fun _ _ h => h) (.bl _))
  have refl : Same H H := fun _ _ h => h
  cases a <;> cases b <;> first
    | exact fin rfl e
    | (cases e
       first
       | (cases r1.int_inv; cases r2.int_inv; exact .inl ⟨rfl, by rw [dec_int]; exact hq _ H refl (.bl _)⟩)
       | (cases r1.bl_inv; cases r2.bl_inv; exact .inl ⟨rfl, by rw [dec_bl]; exact hq _ H refl (.bl _)⟩)
       | (cases r1.str_inv; cases r2.str_inv; exact .inl ⟨rfl, by rw [dec_str]; exact hq _ H refl (.bl _)⟩))
def intsD : List D → Option (List Int)
  | [] => some []
  | .int i :: r => (intsD r).map (i :: ·)
  | _ => none
def boolsD : List D → Option (List Bool)
  | [] => some []
  | .bl i :: r => (boolsD r).map (i :: ·)
  | _ => none
theorem ints_reps {O : Addr → Prop} {H : Hp} : ∀ {vs : List V} {ds : List D} {ns : List Int}, Reps K O H vs ds → intsD ds = some ns → vs = ns.map V.int
  | _, _, _, .nil, e => by cases e; rfl
  | _, _, ns, .cons (d := d) (ds := ds) r t, e => by
    cases d with
    | int i =>
      have e : (intsD ds).map (i :: ·) = some ns := e
      cases q : intsD ds with
      | none => rw [q] at e; cases e
      | some ms =>
        rw [q] at e
        cases e
        rw [r.int_inv, ints_reps t q]
        rfl
    | _ => cases e
theorem bools_reps {O : Addr → Prop} {H : Hp} : ∀ {vs : List V} {ds : List D} {ns : List Bool}, Reps K O H vs ds → boolsD ds = some ns → vs = ns.map V.bl
  | _, _, _, .nil, e => by cases e; rfl
  | _, _, ns, .cons (d := d) (ds := ds) r t, e => by
    cases d with
    | bl i =>
      have e : (boolsD ds).map (i :: ·) = some ns := e
      cases q : boolsD ds with
      | none => rw [q] at e; cases e
      | some ms =>
        rw [q] at e
        cases e
        rw [r.bl_inv, bools_reps t q]
        rfl
    | _ => cases e
theorem reps_ints {O : Addr → Prop} {H : Hp} : ∀ (ns : List Int), Reps K O H (ns.map V.int) (ns.map D.int)
  | [] => .nil
  | n :: ns => .cons (.int n) (reps_ints ns)
def dAdd (a b : D) : Option D := match a, b with
  | .int i, .int j => some (.int (i + j))
  | .str i, .str j => if i.length + j.length ≤ sizeLine then some (.str (i ++ j)) else none
  | .tup xs, .tup ys => if xs.length + ys.length ≤ sizeLine then some (.tup (xs ++ ys)) else none
  | .lst xs, .lst ys => if xs.length + ys.length ≤ sizeLine then some (.lst (xs ++ ys)) else none
  | _, _ => none
def rCatL (K : PySem.W.Frag) : R2 := fun x y H Q => ∃ l b xs zs, x = .ref l ∧ y = .ref b ∧ RdL K H l xs ∧ RdL K H b zs ∧ xs.length + zs.length ≤ sizeLine ∧ ∀ p, H p = none → Q (.ref p) (upd H p (.lst (xs ++ zs)))
theorem RdL.obj {X : Cx} {pins : List (Addr × Obj)} {σ : St} {H : Hp} {s : Shared} {a : Addr} {xs : List V} (I : Inv X pins σ H s) (h : RdL X.K H a xs) : ∃ (its : List Value) (n : Nat), Vals xs its ∧ s.heap.get? a = some { cls := .type "list", data := .seq its.toArray n } ∧ xs.length ≤ sizeLine := by
  rcases h with h | ⟨o, its, n, h1, h2, h3, h4, h5, h6, h7⟩
  · obtain ⟨z, its, n, r, e⟩ := h.ok I.hok
    exact ⟨its, n, r, e, z⟩
  · refine ⟨its.toList, n, h6, ?_, by rw [h6.length]; simpa using h5⟩
    rw [I.kIn a o h1]
    obtain ⟨c, dd, da, sl⟩ := o
    simp only at h2 h3 h4 h7
    subst h2 h3 h4 h7
    simp
theorem op_catL : OpR X (binaryOp .Add) (rCatL X.K) := by
  intro pins s σ H x y v u Q I rx ry h
  obtain ⟨l, b, xs, zs, rfl, rfl, hH, hB, hz, q⟩ := h
  cases rx
  cases ry
  obtain ⟨its, n, r, e, hl⟩ := hH.obj I
  obtain ⟨its2, n2, r2, e2, hl2⟩ := hB.obj I
  have l1 := r.length
  have l2 := r2.length
  refine PySem.P.add_list e e2 ?_ (by rw [List.size_toArray, List.size_toArray]; omega)
  have ea : its.toArray ++ its2.toArray = (its ++ its2).toArray := by simp
  rw [ea]
  exact ⟨.ref _, _, I.lnew (t' := s.toks) (r.append r2) (by rw [List.length_append]; omega), rfl, q _ I.fresh⟩
def rAddA (K : PySem.W.Frag) : R2 := fun x y H Q => (rI0 fun i j => .int (i + j)) x y H Q ∨ (∃ i j, x = .str i ∧ y = .str j ∧ i.length + j.length ≤ sizeLine ∧ Q (.str (i ++ j)) H) ∨ rCatA K x y H Q ∨ rCatL K x y H Q
theorem op_addA : OpR X (binaryOp .Add) (rAddA X.K) := OpR.or' op_add (OpR.or' op_add_str (OpR.or' op_catA op_catL))
theorem same_refl (H : Hp) : Same H H := fun _ _ h => h
theorem od_add : Od K w1 w2 (rAddA K) dAdd := by
  intro O H x y a b c Q al r1 r2 e hq
  cases a <;> cases b <;> first
    | (cases e; done)
    | skip
  · cases e
    rw [r1.int_inv, r2.int_inv]
    exact .inl ⟨_, _, rfl, rfl, hq _ H (same_refl H) (.int _)⟩
  · rename_i i j
    have e : (if i.length + j.length ≤ sizeLine then some (D.str (i ++ j)) else none) = some c := e
    split at e
    · cases e
      rw [r1.str_inv, r2.str_inv]
      exact .inr (.inl ⟨_, _, rfl, rfl, by assumption, hq _ H (same_refl H) (.str _)⟩)
    · cases e
  · rename_i xs ys
    have e : (if xs.length + ys.length ≤ sizeLine then some (D.tup (xs ++ ys)) else none) = some c := e
    split at e
    · rename_i hz
      cases e
      obtain ⟨a1, vs, rfl, h1, h2⟩ := r1.tup_inv
      obtain ⟨a2, us, rfl, h3, h4⟩ := r2.tup_inv
      refine .inr (.inr (.inl ⟨a1, a2, vs, us, rfl, rfl, h1.sq, h3.sq, by rw [h2.length, h4.length]; exact hz, fun z => ?_, fun z z' => ?_, fun z z' p hp => ?_⟩))
      · subst z
        cases h2
        exact hq _ H (same_refl H) (.tup h3 h4)
      · subst z'
        cases h4
        rw [List.append_nil] at hq
        exact hq _ H (same_refl H) (.tup h1 h2)
      · exact hq _ _ (same_new hp) (Rep.newT al hp (h2.append h4))
    · cases e
  · rename_i xs ys
    have e : (if xs.length + ys.length ≤ sizeLine then some (D.lst (xs ++ ys)) else none) = some c := e
    split at e
    · rename_i hz
      cases e
      obtain ⟨a1, vs, rfl, h1, h2⟩ := r1.lst_invR
      obtain ⟨a2, us, rfl, h3, h4⟩ := r2.lst_invR
      exact .inr (.inr (.inr ⟨a1, a2, vs, us, rfl, rfl, h1, h3, by rw [h2.length, h4.length]; exact hz, fun p hp => hq _ _ (same_new hp) (Rep.newL al hp (h2.append h4))⟩))
    · cases e
def dSub (a b : D) : Option D := match a, b with
  | .int i, .int j => some (.int (i - j))
  | _, _ => none
theorem od_int {g : Int → Int → D} {gv : Int → Int → V} {C : Int → Int → Prop} [∀ i j, Decidable (C i j)] {f : D → D → Option D} (hf : ∀ a b c, f a b = some c → ∃ i j, a = .int i ∧ b = .int j ∧ C i j ∧ c = g i j) (hr : ∀ O H i j, Rep K O H (gv i j) (g i j)) : Od K w1 w2 (rI C gv) f := by
  intro O H x y a b c Q al r1 r2 e hq
  obtain ⟨i, j, rfl, rfl, hc, rfl⟩ := hf a b c e
  rw [r1.int_inv, r2.int_inv]
  exact ⟨_, _, rfl, rfl, hc, hq _ H (same_refl H) (hr _ _ _ _)⟩
theorem od_int0 {g : Int → Int → D} {gv : Int → Int → V} {f : D → D → Option D} (hf : ∀ a b c, f a b = some c → ∃ i j, a = .int i ∧ b = .int j ∧ c = g i j) (hr : ∀ O H i j, Rep K O H (gv i j) (g i j)) : Od K w1 w2 (rI0 gv) f := by
  intro O H x y a b c Q al r1 r2 e hq
  obtain ⟨i, j, rfl, rfl, rfl⟩ := hf a b c e
  rw [r1.int_inv, r2.int_inv]
  exact ⟨_, _, rfl, rfl, hq _ H (same_refl H) (hr _ _ _ _)⟩
theorem od_sub : Od K w1 w2 (rI0 fun i j => .int (i - j)) dSub := od_int0 (g := fun i j => .int (i - j)) (fun a b c e => by
  cases a <;> cases b <;> cases e
  exact ⟨_, _, rfl, rfl, rfl⟩) fun _ _ _ _ => .int _
instance (i j : Int) : Decidable (CMulW i j) := inferInstanceAs (Decidable (_ < _))
instance (i j : Int) : Decidable (CDivW i j) := inferInstanceAs (Decidable (_ ∧ _))
def dMul (a b : D) : Option D := match a, b with
  | .int i, .int j => if CMulW i j then some (.int (i * j)) else none
  | _, _ => none
theorem od_mul : Od K w1 w2 (rI CMulW fun i j => .int (i * j)) dMul := od_int (g := fun i j => .int (i * j)) (fun a b c e => by
  cases a <;> cases b <;> first | (cases e; done) | skip
  rename_i i j
  have e : (if CMulW i j then some (D.int (i * j)) else none) = some c := e
  split at e <;> cases e
  exact ⟨_, _, rfl, rfl, by assumption, rfl⟩) fun _ _ _ _ => .int _
def dDiv (a b : D) : Option D := match a, b with
  | .int i, .int j => if CDivW i j then some (.int (i / j)) else none
  | _, _ => none
theorem od_div : Od K w1 w2 (rI CDivW fun i j => .int (i / j)) dDiv := od_int (g := fun i j => .int (i / j)) (fun a b c e => by
  cases a <;> cases b <;> first | (cases e; done) | skip
  rename_i i j
  have e : (if CDivW i j then some (D.int (i / j)) else none) = some c := e
  split at e <;> cases e
  exact ⟨_, _, rfl, rfl, by assumption, rfl⟩) fun _ _ _ _ => .int _
def dMod (a b : D) : Option D := match a, b with
  | .int i, .int j => if 0 < j then some (.int (i % j)) else none
  | _, _ => none
theorem od_mod : Od K w1 w2 (rI (fun _ j => 0 < j) fun i j => .int (i % j)) dMod := od_int (g := fun i j => .int (i % j)) (fun a b c e => by
  cases a <;> cases b <;> first | (cases e; done) | skip
  rename_i i j
  have e : (if 0 < j then some (D.int (i % j)) else none) = some c := e
  split at e <;> cases e
  exact ⟨_, _, rfl, rfl, by assumption, rfl⟩) fun _ _ _ _ => .int _
def CPowW (i j : Int) : Prop := 0 ≤ j ∧ (Builtin.Int.intBits i : Int) * j ≤ 2 ^ 27
instance (i j : Int) : Decidable (CPowW i j) := inferInstanceAs (Decidable (_ ∧ _))
theorem op_powW : OpR X (binaryOp .Pow) (rI CPowW fun i j => .int (i ^ j.toNat)) := opI fun _ _ _ _ _ _ _ hc q => pow_int hc.1 hc.2 q
def dPow (a b : D) : Option D := match a, b with
  | .int i, .int j => if CPowW i j then some (.int (i ^ j.toNat)) else none
  | _, _ => none
theorem od_pow : Od K w1 w2 (rI CPowW fun i j => .int (i ^ j.toNat)) dPow := od_int (g := fun i j => .int (i ^ j.toNat)) (fun a b c e => by
  cases a <;> cases b <;> first | (cases e; done) | skip
  rename_i i j
  have e : (if CPowW i j then some (D.int (i ^ j.toNat)) else none) = some c := e
  split at e <;> cases e
  exact ⟨_, _, rfl, rfl, by assumption, rfl⟩) fun _ _ _ _ => .int _
def dLt (a b : D) : Option D := match a, b with
  | .int i, .int j => some (.bl (decide (i < j)))
  | _, _ => none
def dLe (a b : D) : Option D := match a, b with
  | .int i, .int j => some (.bl (decide (i ≤ j)))
  | _, _ => none
def dGt (a b : D) : Option D := match a, b with
  | .int i, .int j => some (.bl (decide (j < i)))
  | _, _ => none
def dGe (a b : D) : Option D := match a, b with
  | .int i, .int j => some (.bl (decide (j ≤ i)))
  | _, _ => none
theorem od_lt : Od K w1 w2 (rI0 fun i j => .bl (decide (i < j))) dLt := od_int0 (g := fun i j => .bl (decide (i < j))) (fun a b c e => by
  cases a <;> cases b <;> cases e
  exact ⟨_, _, rfl, rfl, rfl⟩) fun _ _ _ _ => .bl _
theorem od_le : Od K w1 w2 (rI0 fun i j => .bl (decide (i ≤ j))) dLe := od_int0 (g := fun i j => .bl (decide (i ≤ j))) (fun a b c e => by
  cases a <;> cases b <;> cases e
  exact ⟨_, _, rfl, rfl, rfl⟩) fun _ _ _ _ => .bl _
theorem od_gt : Od K w1 w2 (rI0 fun i j => .bl (decide (j < i))) dGt := od_int0 (g := fun i j => .bl (decide (j < i))) (fun a b c e => by
  cases a <;> cases b <;> cases e
  exact ⟨_, _, rfl, rfl, rfl⟩) fun _ _ _ _ => .bl _
theorem od_ge : Od K w1 w2 (rI0 fun i j => .bl (decide (j ≤ i))) dGe := od_int0 (g := fun i j => .bl (decide (j ≤ i))) (fun a b c e => by
  cases a <;> cases b <;> cases e
  exact ⟨_, _, rfl, rfl, rfl⟩) fun _ _ _ _ => .bl _
def isNon : D → Bool
  | .non => true
  | _ => false
def dIs (a b : D) : Option D := match b with
  | .non => some (.bl (isNon a))
  | _ => none
def dIsNot (a b : D) : Option D := match b with
  | .non => some (.bl (!(isNon a)))
  | _ => none
theorem non_dec {O : Addr → Prop} {H : Hp} {x : V} {a : D} (r : RepW w1 K O H x a) : decide (x = V.non) = isNon a := by
  cases a with
  | non => rw [r.non_inv]; simp [isNon]
  | bl b => rw [r.bl_inv]; simp [isNon]
  | int b => rw [r.int_inv]; simp [isNon]
  | str b => rw [r.str_inv]; simp [isNon]
  | tup b => obtain ⟨_, _, rfl, _⟩ := r.tup_inv; simp [isNon]
  | lst b => obtain ⟨_, _, rfl, _⟩ := r.lst_inv; simp [isNon]
theorem od_is : Od K w1 w2 (fun x y H Q => y = .non ∧ Q (.bl (decide (x = .non))) H) dIs := by
  intro O H x y a b c Q al r1 r2 e hq
  cases b <;> cases e
  refine ⟨r2.non_inv, ?_⟩
  rw [non_dec r1]
  exact hq _ H (same_refl H) (.bl _)
theorem od_isNot : Od K w1 w2 (fun x y H Q => y = .non ∧ Q (.bl (!decide (x = .non))) H) dIsNot := by
  intro O H x y a b c Q al r1 r2 e hq
  cases b <;> cases e
  refine ⟨r2.non_inv, ?_⟩
  rw [non_dec r1]
  exact hq _ H (same_refl H) (.bl _)
def rIxA (K : PySem.W.Frag) : R2 := fun x y H Q => rIxL K x y H Q ∨ rIxT K x y H Q
theorem ix_A : IxR X (rIxA X.K) := by
  intro value slice pins s σ H x y v u Q I rx ry h hs
  rcases h with h | h
  · exact ix_list value slice pins s σ H x y v u Q I rx ry h hs
  · exact ix_tup value slice pins s σ H x y v u Q I rx ry h hs
def dIx (a b : D) : Option D := match a, b with
  | .lst ds, .int i => (ixN ds.length i).bind fun j => ds[j]?
  | .tup ds, .int i => (ixN ds.length i).bind fun j => ds[j]?
  | _, _ => none
theorem atI_of {O : Addr → Prop} {H : Hp} {vs : List V} {ds : List D} {i : Int} {c : D} (r : Reps K O H vs ds) (e : ((ixN ds.length i).bind fun j => ds[j]?) = some c) : ∃ v, atI vs i = some v ∧ Rep K O H v c := by
  cases q : ixN ds.length i with
  | none => rw [q] at e; cases e
  | some j =>
    rw [q] at e
    obtain ⟨v, h1, h2⟩ := r.at_ (i := j) e
    exact ⟨v, by unfold atI; rw [r.length, q]; exact h1, h2⟩
theorem od_ix : Od K w1 w2 (rIxA K) dIx := by
  intro O H x y a b c Q al r1 r2 e hq
  cases a <;> cases b <;> first | (cases e; done) | skip
  · obtain ⟨p, vs, rfl, h1, h2⟩ := r1.tup_inv
    obtain ⟨v, h3, h4⟩ := atI_of h2 e
    exact .inr ⟨p, vs, _, v, rfl, r2.int_inv, h1.sq, h3, hq v H (same_refl H) h4⟩
  · obtain ⟨p, vs, rfl, h1, h2⟩ := r1.lst_inv
    obtain ⟨v, h3, h4⟩ := atI_of h2 e
    exact .inl ⟨p, vs, _, v, rfl, r2.int_inv, h1, h3, hq v H (same_refl H) h4⟩
theorem ev_ix {E : XK} {p q : Bool} {a b : Expr} {fa fb : ES} {pos : Pos} (ha : EV X E p w1 a fa) (hb : EV X E q w2 b fb) (hs : PlainIx b := by intro _ _; rfl) (hw : (!w1 || q) = true := by rfl) : EV X E (p && q) w (.Subscript a b pos) (eOp dIx fa fb) := by
  obtain ⟨ta, pa, ra⟩ := ha.ex
  obtain ⟨tb, pb, rb⟩ := hb.ex
  refine ⟨_, pe_ix ix_A pa pb hs, fun O W σ H ρ Q s h => ?_⟩
  refine bin2 ra rb hw s (h.bind.mono (fun x hx => hx.bind.mono (fun y hy v u H' po r1 r2 => ?_) fun _ _ z => z) fun _ _ z => z)
  obtain ⟨z, ez, hz⟩ := hy.bind.ofO
  exact od_ix O H' v u _ _ z Q po.st.al r1 r2 ez fun v' H2 sm r => hz v' H2 (po.more sm) (.inl r)
structure OV (X : Cx) (E : XK) (p : Bool) (e : Option Expr) (f : List B → Rs (Option Int × List B)) : Prop where
  ex : ∃ t, PO X e t ∧ ∀ (O W : Addr → Prop) (σ : St) (H : Hp) (ρ : List B) (Q : Option Int → Hp → Prop), StR X.K O W σ H ρ →
    Wr (f ρ) (fun r => ∀ H', Post p X.K O W σ H H' ρ r.2 → Q r.1 H') (EX X E O W H) → t σ H Q
def oNo : List B → Rs (Option Int × List B) := fun ρ => .ok (none, ρ)
def oAt (f : ES) : List B → Rs (Option Int × List B) := fun ρ => (f ρ).bind fun x => match x.1 with
  | .int i => .ok (some i, x.2)
  | _ => .bad
theorem ov_no {E : XK} : OV X E true none oNo := ⟨_, po_none, fun O W σ H ρ Q s h => h H (Post.refl s)⟩
theorem ov_at {E : XK} {p : Bool} {e : Expr} {f : ES} (h : EV X E p w e f) : OV X E p (some e) (oAt f) := by
  obtain ⟨t, pt, rt⟩ := h.ex
  refine ⟨_, po_some pt, fun O W σ H ρ Q s h => ?_⟩
  refine rt O W σ H ρ _ s (h.bind.mono (fun x hx v H1 po r => ?_) fun _ _ z => z)
  obtain ⟨d, ρ1⟩ := x
  cases d with
  | int i => exact ⟨i, r.int_inv, hx H1 po⟩
  | _ => exact hx.elim
def cutD (xs : List D) (lo hi : Option Int) : List D := (xs.drop (HT.sIx xs.length 0 lo)).take (HT.sIx xs.length xs.length hi - HT.sIx xs.length 0 lo)
theorem Reps.cut {O : Addr → Prop} {H : Hp} {vs : List V} {ds : List D} (r : Reps K O H vs ds) (lo hi : Option Int) : Reps K O H (cutV vs lo hi) (cutD ds lo hi) := by
  unfold cutV cutD
  rw [r.length]
  exact (r.drop _).take _
def rSlAll (K : PySem.W.Frag) : V → Option Int → Option Int → Hp → VK → Prop := fun x lo hi H Q => rSlL K x lo hi H Q ∨ rSlA K x lo hi H Q
theorem sl_A : SlR X (rSlAll X.K) := SlR.or sl_list sl_tupA
def dSl (a : D) (lo hi : Option Int) : Option D := match a with
  | .lst ds => some (.lst (cutD ds lo hi))
  | .tup ds => some (.tup (cutD ds lo hi))
  | _ => none
def eSl (f : ES) (a b : List B → Rs (Option Int × List B)) : ES := fun ρ => (f ρ).bind fun x => (a x.2).bind fun y => (b y.2).bind fun z => (ofO (dSl x.1 y.1 z.1)).bind fun d => .ok (d, z.2)
theorem cut_whole {vs : List V} {lo hi : Option Int} (h : HT.sIx vs.length 0 lo = 0 ∧ HT.sIx vs.length vs.length hi = vs.length) : cutV vs lo hi = vs := by
  unfold cutV
  rw [h.1, h.2]
  simp
theorem ev_sl {E : XK} {p q p3 : Bool} {a : Expr} {lo hi : Option Expr} {fa : ES} {fl fh : List B → Rs (Option Int × List B)} {p2 pos : Pos} (ha : EV X E p w1 a fa) (hl : OV X E q lo fl) (hh : OV X E p3 hi fh) (hw : (!w1 || (q && p3)) = true := by rfl) : EV X E (p && (q && p3)) w (.Subscript a (.Slice lo hi none p2) pos) (eSl fa fl fh) := by
  obtain ⟨ta, pa, ra⟩ := ha.ex
  obtain ⟨tl, pl, rl⟩ := hl.ex
  obtain ⟨th, ph, rh⟩ := hh.ex
  refine ⟨_, pe_slice sl_A pa pl ph, fun O W σ H ρ Q s h => ?_⟩
  refine ra O W σ H ρ _ s (h.bind.mono (fun x hx v H1 po r => ?_) fun _ _ z => z)
  refine rl O W σ H1 x.2 _ po.st (hx.bind.mono (fun y hy H2 po2 => ?_) fun _ _ z => z.on po.ext)
  have po12 := po.trans po2
  refine rh O W σ H2 y.2 _ po2.st (hy.bind.mono (fun z hz H3 po3 => ?_) fun _ _ z => z.on po12.ext)
  obtain ⟨d, ed, hd⟩ := hz.bind.ofO
  have po23 := po2.trans po3
  have pa := po.trans po23
  have r3 := po23.keepW hw r
  obtain ⟨dx, ρx⟩ := x
  cases dx with
  | lst ds =>
    cases ed
    obtain ⟨b, vs, rfl, h1, h2⟩ := r3.lst_inv
    exact .inl ⟨b, vs, rfl, h1, fun p hp => hd _ _ (pa.more (same_new hp)) (.inl (Rep.newL po3.st.al hp (h2.cut _ _)))⟩
  | tup ds =>
    cases ed
    obtain ⟨b, vs, rfl, h1, h2⟩ := r3.tup_inv
    refine .inr ⟨b, vs, rfl, h1.sq, fun hwh => ?_, fun _ p hp => hd _ _ (pa.more (same_new hp)) (.inl (Rep.newT po3.st.al hp (h2.cut _ _)))⟩
    have e : cutV vs y.1 z.1 = vs := cut_whole hwh
    have h2' := h2.cut y.1 z.1
    rw [e] at h2'
    exact hd _ _ pa (.inl (.tup h1 h2'))
  | _ => cases ed
theorem ev_blt {E : XK} {p : Bool} {id : String} {x : Str} {e : Expr} {es : List Expr} {ar : AS} {r : List V → Hp → VK → Prop} {f : List D → Option D} {pp pos : Pos} (hc : CallR X (.builtin id) r) (hd : Cd X.K w1 r f) (ha : AV X E p w1 (e :: es) ar) (hg : Gl X x) (hm : X.mg x = none)
    (hv : bootBuiltins x = some (.builtin id) := by decide +kernel) (hn : x ≠ "__name__" := by decide) (hdb : (x == ("__debug__" : Str)) = false := by decide)
    (he : starEach (e :: es) X.env = (false, eval e X.env) :: starEach es X.env := by rfl) (hpl : (backTo pos (starEach es X.env)).any (·.1) = false := by rfl) : EV X E p w (.Call (.Name x pp) (e :: es) [] pos) (eBlt f ar) := by
  obtain ⟨t, pt, rt⟩ := ha.ex
  refine ⟨_, pe_callB hc hg hm hv pt hn hdb he hpl, fun O W σ H ρ Q s h => ?_⟩
  refine rt O W σ H ρ _ s (h.bind.mono (fun x hx vs H1 po r => ?_) fun _ _ z => z)
  obtain ⟨z, ez, hz⟩ := hx.bind.ofO
  exact hd O H1 vs _ z Q po.st.al r ez fun v H' sm r => hz v H' (po.more sm) (.inl r)
theorem ev_ty {E : XK} {p : Bool} {T : String} {x : Str} {e : Expr} {es : List Expr} {ar : AS} {r : List V → Hp → VK → Prop} {f : List D → Option D} {pp pos : Pos} (hc : CallR X (.type T) r) (hd : Cd X.K w1 r f) (ha : AV X E p w1 (e :: es) ar) (hg : Gl X x) (hm : X.mg x = none)
    (hv : bootBuiltins x = some (.type T) := by decide +kernel) (hn : x ≠ "__name__" := by decide) (hdb : (x == ("__debug__" : Str)) = false := by decide)
    (he : starEach (e :: es) X.env = (false, eval e X.env) :: starEach es X.env := by rfl) (hpl : (backTo pos (starEach es X.env)).any (·.1) = false := by rfl) : EV X E p w (.Call (.Name x pp) (e :: es) [] pos) (eBlt f ar) := by
  obtain ⟨t, pt, rt⟩ := ha.ex
  refine ⟨_, pe_callTy hc hg hm hv pt hn hdb he hpl, fun O W σ H ρ Q s h => ?_⟩
  refine rt O W σ H ρ _ s (h.bind.mono (fun x hx vs H1 po r => ?_) fun _ _ z => z)
  obtain ⟨z, ez, hz⟩ := hx.bind.ofO
  exact hd O H1 vs _ z Q po.st.al r ez fun v H' sm r => hz v H' (po.more sm) (.inl r)
theorem eo_blt {E : XK} {p : Bool} {id : String} {x : Str} {e : Expr} {es : List Expr} {ar : AS} {r : List V → Hp → VK → Prop} {f : List D → Option (List D)} {pp pos : Pos} (hc : CallR X (.builtin id) r) (hd : Co X.K w1 r f) (ha : AV X E p w1 (e :: es) ar) (hg : Gl X x) (hm : X.mg x = none)
    (hv : bootBuiltins x = some (.builtin id) := by decide +kernel) (hn : x ≠ "__name__" := by decide) (hdb : (x == ("__debug__" : Str)) = false := by decide)
    (he : starEach (e :: es) X.env = (false, eval e X.env) :: starEach es X.env := by rfl) (hpl : (backTo pos (starEach es X.env)).any (·.1) = false := by rfl) : EO X E p (.Call (.Name x pp) (e :: es) [] pos) (oBlt f ar) := by
  obtain ⟨t, pt, rt⟩ := ha.ex
  refine ⟨_, pe_callB hc hg hm hv pt hn hdb he hpl, fun O W σ H ρ Q s h => ?_⟩
  refine rt O W σ H ρ _ s (h.bind.mono (fun x hx vs H1 po r => ?_) fun _ _ z => z)
  obtain ⟨z, ez, hz⟩ := hx.bind.ofO
  exact hd O H1 vs _ z Q po.st.al r ez fun q us n r => eo_end hz po q us n r (po.free' n)
theorem eo_ty {E : XK} {p : Bool} {T : String} {x : Str} {e : Expr} {es : List Expr} {ar : AS} {r : List V → Hp → VK → Prop} {f : List D → Option (List D)} {pp pos : Pos} (hc : CallR X (.type T) r) (hd : Co X.K w1 r f) (ha : AV X E p w1 (e :: es) ar) (hg : Gl X x) (hm : X.mg x = none)
    (hv : bootBuiltins x = some (.type T) := by decide +kernel) (hn : x ≠ "__name__" := by decide) (hdb : (x == ("__debug__" : Str)) = false := by decide)
    (he : starEach (e :: es) X.env = (false, eval e X.env) :: starEach es X.env := by rfl) (hpl : (backTo pos (starEach es X.env)).any (·.1) = false := by rfl) : EO X E p (.Call (.Name x pp) (e :: es) [] pos) (oBlt f ar) := by
  obtain ⟨t, pt, rt⟩ := ha.ex
  refine ⟨_, pe_callTy hc hg hm hv pt hn hdb he hpl, fun O W σ H ρ Q s h => ?_⟩
  refine rt O W σ H ρ _ s (h.bind.mono (fun x hx vs H1 po r => ?_) fun _ _ z => z)
  obtain ⟨z, ez, hz⟩ := hx.bind.ofO
  exact hd O H1 vs _ z Q po.st.al r ez fun q us n r => eo_end hz po q us n r (po.free' n)
theorem one_of {O : Addr → Prop} {H : Hp} {xs : List V} {a : D} (r : Paired (RepW w K O H) xs [a]) : ∃ x, xs = [x] ∧ RepW w K O H x a := by
  cases r with
  | cons r t => cases t; exact ⟨_, rfl, r⟩
theorem two_of {O : Addr → Prop} {H : Hp} {xs : List V} {a b : D} (r : Paired (RepW w K O H) xs [a, b]) : ∃ x y, xs = [x, y] ∧ RepW w K O H x a ∧ RepW w K O H y b := by
  cases r with
  | cons r t =>
    cases t with
    | cons r2 t => cases t; exact ⟨_, _, rfl, r, r2⟩
def dLen : List D → Option D
  | [.lst ds] => some (.int ds.length)
  | [.tup ds] => some (.int ds.length)
  | [.str x] => if x.length ≤ sizeLine then some (.int x.length) else none
  | _ => none
def rLenA (K : PySem.W.Frag) : List V → Hp → VK → Prop := fun xs H Q => (∃ p ys, xs = [.ref p] ∧ (SqL K H p ys ∨ SqT K H p ys) ∧ Q (.int ys.length) H) ∨ (∃ z, xs = [.str z] ∧ z.length ≤ sizeLine ∧ Q (.int z.length) H)
theorem cr_len : CallR X (.builtin "len") (rLenA X.K) := call_len_seq.or call_len_str
theorem cd_len : Cd K w (rLenA K) dLen := by
  intro O H xs as c Q al r e hq
  match as, r, e with
  | [.lst ds], r, e =>
    cases e
    obtain ⟨x, rfl, rr⟩ := one_of r
    obtain ⟨a, vs, rfl, h1, h2⟩ := rr.lst_inv
    exact .inl ⟨a, vs, rfl, .inl h1, by rw [h2.length]; exact hq _ H (same_refl H) (.int _)⟩
  | [.tup ds], r, e =>
    cases e
    obtain ⟨x, rfl, rr⟩ := one_of r
    obtain ⟨a, vs, rfl, h1, h2⟩ := rr.tup_inv
    exact .inl ⟨a, vs, rfl, .inr h1.sq, by rw [h2.length]; exact hq _ H (same_refl H) (.int _)⟩
  | [.str z], r, e =>
    obtain ⟨x, rfl, rr⟩ := one_of r
    have e : (if z.length ≤ sizeLine then some (D.int z.length) else none) = some c := e
    split at e
    · cases e
      rw [rr.str_inv]
      exact .inr ⟨z, rfl, by assumption, hq _ H (same_refl H) (.int _)⟩
    · cases e
def dAll : List D → Option D
  | [.lst ds] => (boolsD ds).map fun bs => .bl (bs.all id)
  | _ => none
def dAny : List D → Option D
  | [.lst ds] => (boolsD ds).map fun bs => .bl (bs.any id)
  | _ => none
def dSum : List D → Option D
  | [.lst ds] => (intsD ds).map fun bs => .int bs.sum
  | _ => none
theorem cd_all : Cd K w (rAll K) dAll := by
  intro O H xs as c Q al r e hq
  match as, r, e with
  | [.lst ds], r, e =>
    have e : (boolsD ds).map (fun bs => D.bl (bs.all id)) = some c := e
    cases q : boolsD ds with
    | none => rw [q] at e; cases e
    | some bs =>
      rw [q] at e
      cases e
      obtain ⟨x, rfl, rr⟩ := one_of r
      obtain ⟨a, vs, rfl, h1, h2⟩ := rr.lst_inv
      rw [bools_reps h2 q] at h1
      exact ⟨a, bs, rfl, h1, hq _ H (same_refl H) (.bl _)⟩
theorem cd_any : Cd K w (rAny K) dAny := by
  intro O H xs as c Q al r e hq
  match as, r, e with
  | [.lst ds], r, e =>
    have e : (boolsD ds).map (fun bs => D.bl (bs.any id)) = some c := e
    cases q : boolsD ds with
    | none => rw [q] at e; cases e
    | some bs =>
      rw [q] at e
      cases e
      obtain ⟨x, rfl, rr⟩ := one_of r
      obtain ⟨a, vs, rfl, h1, h2⟩ := rr.lst_inv
      rw [bools_reps h2 q] at h1
      exact ⟨a, bs, rfl, h1, hq _ H (same_refl H) (.bl _)⟩
theorem cd_sum : Cd K w (rSum K) dSum := by
  intro O H xs as c Q al r e hq
  match as, r, e with
  | [.lst ds], r, e =>
    have e : (intsD ds).map (fun bs => D.int bs.sum) = some c := e
    cases q : intsD ds with
    | none => rw [q] at e; cases e
    | some bs =>
      rw [q] at e
      cases e
      obtain ⟨x, rfl, rr⟩ := one_of r
      obtain ⟨a, vs, rfl, h1, h2⟩ := rr.lst_inv
      rw [ints_reps h2 q] at h1
      exact ⟨a, bs, rfl, h1, hq _ H (same_refl H) (.int _)⟩
def maxL : List Int → Option Int
  | [] => none
  | n :: ns => some (ns.foldl (fun a b => if b > a then b else a) n)
def minL : List Int → Option Int
  | [] => none
  | n :: ns => some (ns.foldl (fun a b => if b < a then b else a) n)
def dMax : List D → Option D
  | [.int i, .int j] => some (.int (if j > i then j else i))
  | [.lst ds] => ((intsD ds).bind maxL).map .int
  | _ => none
def dMin : List D → Option D
  | [.int i, .int j] => some (.int (if j < i then j else i))
  | [.lst ds] => ((intsD ds).bind minL).map .int
  | _ => none
theorem maxgo : ∀ (ns : List Int) (n m : Int), (∀ y ∈ ns, y ≤ m) → n ≤ m → (m = n ∨ m ∈ ns) → ns.foldl (fun a b => if b > a then b else a) n = m
  | [], n, m, _, _, h => by
    rcases h with h | h
    · exact h.symm
    · cases h
  | k :: ns, n, m, h1, h2, h3 => by
    have hk := h1 k List.mem_cons_self
    have h1' : ∀ y ∈ ns, y ≤ m := fun y hy => h1 y (List.mem_cons_of_mem _ hy)
    rw [List.foldl_cons]
    by_cases hkn : k > n
    · rw [if_pos hkn]
      refine maxgo ns k m h1' hk ?_
      rcases h3 with h3 | h3
      · omega
      · rcases List.mem_cons.mp h3 with h | h
        · exact .inl h
        · exact .inr h
    · rw [if_neg hkn]
      refine maxgo ns n m h1' h2 ?_
      rcases h3 with h3 | h3
      · exact .inl h3
      · rcases List.mem_cons.mp h3 with h | h
        · exact .inl (by omega)
        · exact .inr h
theorem mingo : ∀ (ns : List Int) (n m : Int), (∀ y ∈ ns, m ≤ y) → m ≤ n → (m = n ∨ m ∈ ns) → ns.foldl (fun a b => if b < a then b else a) n = m
  | [], n, m, _, _, h => by
    rcases h with h | h
    · exact h.symm
    · cases h
  | k :: ns, n, m, h1, h2, h3 => by
    have hk := h1 k List.mem_cons_self
    have h1' : ∀ y ∈ ns, m ≤ y := fun y hy => h1 y (List.mem_cons_of_mem _ hy)
    rw [List.foldl_cons]
    by_cases hkn : k < n
    · rw [if_pos hkn]
      refine mingo ns k m h1' hk ?_
      rcases h3 with h3 | h3
      · omega
      · rcases List.mem_cons.mp h3 with h | h
        · exact .inl h
        · exact .inr h
    · rw [if_neg hkn]
      refine mingo ns n m h1' h2 ?_
      rcases h3 with h3 | h3
      · exact .inl h3
      · rcases List.mem_cons.mp h3 with h | h
        · exact .inl (by omega)
        · exact .inr h
def rMaxA (K : PySem.W.Frag) : List V → Hp → VK → Prop := fun xs H Q => (∃ i j, xs = [.int i, .int j] ∧ Q (.int (if j > i then j else i)) H) ∨ rMax K xs H Q
def rMinA (K : PySem.W.Frag) : List V → Hp → VK → Prop := fun xs H Q => (∃ i j, xs = [.int i, .int j] ∧ Q (.int (if j < i then j else i)) H) ∨ rMin K xs H Q
theorem cr_maxA (hc : X.calm = true) : CallR X (.builtin "max") (rMaxA X.K) := (call_max2 hc).or (cr_max hc)
theorem cr_minA (hc : X.calm = true) : CallR X (.builtin "min") (rMinA X.K) := (call_min2 hc).or (cr_min hc)
theorem cd_max : Cd K w (rMaxA K) dMax := by
  intro O H xs as c Q al r e hq
  match as, r, e with
  | [.int i, .int j], r, e =>
    cases e
    obtain ⟨x, y, rfl, rr, r'⟩ := two_of r
    rw [rr.int_inv, r'.int_inv]
    exact .inl ⟨i, j, rfl, hq _ H (same_refl H) (.int _)⟩
  | [.lst ds], r, e =>
    have e : ((intsD ds).bind maxL).map D.int = some c := e
    cases q : intsD ds with
    | none => rw [q] at e; cases e
    | some bs =>
      rw [q] at e
      obtain ⟨x, rfl, rr⟩ := one_of r
      obtain ⟨a, vs, rfl, h1, h2⟩ := rr.lst_inv
      rw [ints_reps h2 q] at h1
      cases bs with
      | nil => cases e
      | cons n ns =>
        refine .inr ⟨a, n :: ns, rfl, h1, by simp, fun m hm hb => ?_⟩
        have := maxgo ns n m (fun y hy => hb y (List.mem_cons_of_mem _ hy)) (hb n List.mem_cons_self) (List.mem_cons.mp hm)
        cases e
        rw [← this]
        exact hq _ H (same_refl H) (.int _)
theorem cd_min : Cd K w (rMinA K) dMin := by
  intro O H xs as c Q al r e hq
  match as, r, e with
  | [.int i, .int j], r, e =>
    cases e
    obtain ⟨x, y, rfl, rr, r'⟩ := two_of r
    rw [rr.int_inv, r'.int_inv]
    exact .inl ⟨i, j, rfl, hq _ H (same_refl H) (.int _)⟩
  | [.lst ds], r, e =>
    have e : ((intsD ds).bind minL).map D.int = some c := e
    cases q : intsD ds with
    | none => rw [q] at e; cases e
    | some bs =>
      rw [q] at e
      obtain ⟨x, rfl, rr⟩ := one_of r
      obtain ⟨a, vs, rfl, h1, h2⟩ := rr.lst_inv
      rw [ints_reps h2 q] at h1
      cases bs with
      | nil => cases e
      | cons n ns =>
        refine .inr ⟨a, n :: ns, rfl, h1, by simp, fun m hm hb => ?_⟩
        have := mingo ns n m (fun y hy => hb y (List.mem_cons_of_mem _ hy)) (hb n List.mem_cons_self) (List.mem_cons.mp hm)
        cases e
        rw [← this]
        exact hq _ H (same_refl H) (.int _)
def dAbs : List D → Option D
  | [.int i] => some (.int (if i < 0 then -i else i))
  | _ => none
def dInt : List D → Option D
  | [.int i] => some (.int i)
  | [.bl k] => some (.int (if k then 1 else 0))
  | _ => none
theorem cd_abs : Cd K w (fun xs H Q => ∃ i, xs = [.int i] ∧ Q (.int (if i < 0 then -i else i)) H) dAbs := by
  intro O H xs as c Q al r e hq
  match as, r, e with
  | [.int i], r, e =>
    cases e
    obtain ⟨x, rfl, rr⟩ := one_of r
    rw [rr.int_inv]
    exact ⟨i, rfl, hq _ H (same_refl H) (.int _)⟩
theorem cd_int : Cd K w (fun xs H Q => (∃ i, xs = [.int i] ∧ Q (.int i) H) ∨ ∃ k, xs = [.bl k] ∧ Q (.int (if k then 1 else 0)) H) dInt := by
  intro O H xs as c Q al r e hq
  match as, r, e with
  | [.int i], r, e =>
    cases e
    obtain ⟨x, rfl, rr⟩ := one_of r
    rw [rr.int_inv]
    exact .inl ⟨i, rfl, hq _ H (same_refl H) (.int _)⟩
  | [.bl i], r, e =>
    cases e
    obtain ⟨x, rfl, rr⟩ := one_of r
    rw [rr.bl_inv]
    exact .inr ⟨i, rfl, hq _ H (same_refl H) (.int _)⟩
def dTuple : List D → Option D
  | [.lst ds] => some (.tup ds)
  | [.tup ds] => some (.tup ds)
  | _ => none
theorem cd_tuple : Cd K w (fun xs H Q => ∃ p ys, xs = [.ref p] ∧ ((SqL K H p ys ∧ ∀ l, H l = none → Q (.ref l) (upd H l (.tup ys))) ∨ (SqT K H p ys ∧ Q (.ref p) H))) dTuple := by
  intro O H xs as c Q al r e hq
  match as, r, e with
  | [.lst ds], r, e =>
    cases e
    obtain ⟨x, rfl, rr⟩ := one_of r
    obtain ⟨a, vs, rfl, h1, h2⟩ := rr.lst_inv
    exact ⟨a, vs, rfl, .inl ⟨h1, fun l hl => hq _ _ (same_new hl) (Rep.newT al hl h2)⟩⟩
  | [.tup ds], r, e =>
    cases e
    obtain ⟨x, rfl, rr⟩ := one_of r
    obtain ⟨a, vs, rfl, h1, h2⟩ := rr.tup_inv
    exact ⟨a, vs, rfl, .inr ⟨h1.sq, hq _ H (same_refl H) (.tup h1 h2)⟩⟩
def dList : List D → Option (List D)
  | [.lst ds] => some ds
  | [.tup ds] => some ds
  | _ => none
theorem co_list : Co K w (fun xs H Q => ∃ p ys, xs = [.ref p] ∧ (SqL K H p ys ∨ SqT K H p ys) ∧ ∀ l, H l = none → Q (.ref l) (upd H l (.lst ys))) dList := by
  intro O H xs as c Q al r e hq
  match as, r, e with
  | [.lst ds], r, e =>
    cases e
    obtain ⟨x, rfl, rr⟩ := one_of r
    obtain ⟨a, vs, rfl, h1, h2⟩ := rr.lst_inv
    exact ⟨a, vs, rfl, .inl h1, fun l hl => hq _ _ hl h2⟩
  | [.tup ds], r, e =>
    cases e
    obtain ⟨x, rfl, rr⟩ := one_of r
    obtain ⟨a, vs, rfl, h1, h2⟩ := rr.tup_inv
    exact ⟨a, vs, rfl, .inr h1.sq, fun l hl => hq _ _ hl h2⟩
def insI (i : Int) : List Int → List Int
  | [] => [i]
  | j :: r => if i ≤ j then i :: j :: r else j :: insI i r
def sortI : List Int → List Int
  | [] => []
  | i :: r => insI i (sortI r)
theorem insI_perm (i : Int) : ∀ l, (insI i l).Perm (i :: l)
  | [] => .refl _
  | j :: r => by
    unfold insI
    split
    · exact .refl _
    · exact ((insI_perm i r).cons j).trans (.swap i j r)
theorem insI_sorted (i : Int) : ∀ l : List Int, l.Pairwise (· ≤ ·) → (insI i l).Pairwise (· ≤ ·)
  | [], _ => by unfold insI; simp
  | j :: r, h => by
    unfold insI
    obtain ⟨h1, h2⟩ := List.pairwise_cons.mp h
    split
    · rename_i hij
      refine List.pairwise_cons.mpr ⟨fun k hk => ?_, h⟩
      rcases List.mem_cons.mp hk with e | e
      · rw [e]; exact hij
      · exact Int.le_trans hij (h1 k e)
    · rename_i hij
      refine List.pairwise_cons.mpr ⟨fun k hk => ?_, insI_sorted i r h2⟩
      rcases List.mem_cons.mp ((insI_perm i r).mem_iff.mp hk) with e | e
      · rw [e]; omega
      · exact h1 k e
theorem sortI_perm : ∀ l, (sortI l).Perm l
  | [] => .refl _
  | i :: r => (insI_perm i _).trans ((sortI_perm r).cons i)
theorem sortI_sorted : ∀ l, (sortI l).Pairwise (· ≤ ·)
  | [] => .nil
  | i :: r => insI_sorted i _ (sortI_sorted r)
theorem sorted_eq : ∀ {l l' : List Int}, l.Perm l' → l.Pairwise (· ≤ ·) → l'.Pairwise (· ≤ ·) → l = l'
  | [], l', h, _, _ => (List.nil_perm.mp h).symm
  | i :: r, [], h, _, _ => (List.cons_ne_nil _ _ (List.perm_nil.mp h)).elim
  | i :: r, j :: r', h, h1, h2 => by
    obtain ⟨a1, a2⟩ := List.pairwise_cons.mp h1
    obtain ⟨b1, b2⟩ := List.pairwise_cons.mp h2
    have e1 : j ≤ i := by
      rcases List.mem_cons.mp (h.mem_iff.mp List.mem_cons_self) with e | e
      · omega
      · exact b1 i e
    have e2 : i ≤ j := by
      rcases List.mem_cons.mp (h.mem_iff.mpr List.mem_cons_self) with e | e
      · omega
      · exact a1 j e
    have e : i = j := by omega
    subst e
    rw [sorted_eq ((List.perm_cons i).mp h) a2 b2]
def dSorted : List D → Option (List D)
  | [.lst ds] => (intsD ds).map fun ns => (sortI ns).map D.int
  | _ => none
theorem co_sorted : Co K w (rSortedI K) dSorted := by
  intro O H xs as c Q al r e hq
  match as, r, e with
  | [.lst ds], r, e =>
    have e : (intsD ds).map (fun ns => (sortI ns).map D.int) = some c := e
    cases q : intsD ds with
    | none => rw [q] at e; cases e
    | some bs =>
      rw [q] at e
      cases e
      obtain ⟨x, rfl, rr⟩ := one_of r
      obtain ⟨a, vs, rfl, h1, h2⟩ := rr.lst_inv
      rw [ints_reps h2 q] at h1
      refine ⟨a, bs, rfl, h1, fun ns' p hp hs hl => ?_⟩
      rw [sorted_eq (hp.trans (sortI_perm bs).symm) hs (sortI_sorted bs)]
      exact hq _ _ hl (reps_ints _)
def rRepr (K : PySem.W.Frag) : List V → Hp → VK → Prop := fun xs H Q => ∃ v d, xs = [v] ∧ Dp K H v d ∧ d.showable = true ∧ d.hasDict = false ∧ d.depth < 60 ∧ d.shown.length ≤ sizeLine ∧ Q (.str d.shown) H
end
end RT
namespace RT
open PySem PySem.Spec PyProof.Rows L2
section
variable {K : PySem.W.Frag} {w w1 w2 : Bool} {X : Cx} {E : XK} {p q p3 : Bool} {a b e : Expr} {es : List Expr} {fa fb fe : ES} {ar : AS} {pos pp apos cpos : Pos}
def tyD : D → String
  | .non => "NoneType"
  | .bl _ => "bool"
  | .int _ => "int"
  | .str _ => "str"
  | .tup _ => "tuple"
  | .lst _ => "list"
theorem RepW.ty {O : Addr → Prop} {H : Hp} {v : V} {d : D} (r : RepW w K O H v d) : TyX K H v (.type (tyD d)) := by
  cases d with
  | non => rw [r.non_inv]; exact .base .non
  | bl b => rw [r.bl_inv]; exact .base (.bl b)
  | int b => rw [r.int_inv]; exact .base (.int b)
  | str b => rw [r.str_inv]; exact .base (.str b)
  | tup b =>
    obtain ⟨a, vs, rfl, h, _⟩ := r.tup_inv
    rcases h with ⟨h | ⟨o, h⟩, _⟩ | ⟨o, its, n, h1, h2, _⟩
    · exact .base (.tup h)
    · exact .fTuple h
    · exact .kTuple h1 h2
  | lst b =>
    obtain ⟨a, vs, rfl, h, _⟩ := r.lst_invR
    rcases h with (h | ⟨o, h⟩) | ⟨o, its, n, h1, h2, _⟩
    · exact .base (.lst h)
    · exact .base (.frz h)
    · exact .kList h1 h2
def dIsi (T : String) (d : D) : Option D := (kitB (tyD d) T).map .bl
theorem ev_isi (T : String) {x : Str} (ha : EV X E p w1 a fa) (hg : Gl X "isinstance") (hm : X.mg "isinstance" = none) (hg2 : Gl X x) (hm2 : X.mg x = none) (hv : bootBuiltins x = some (.type T) := by decide +kernel)
    (hn : x ≠ "__name__" := by decide) (hdb : (x == ("__debug__" : Str)) = false := by decide)
    (he : starEach [a, .Name x pos] X.env = (false, eval a X.env) :: starEach [.Name x pos] X.env := by rfl) (he2 : starEach [.Name x pos] X.env = (false, eval (.Name x pos) X.env) :: starEach [] X.env := by rfl) (hpl : (backTo cpos (starEach [.Name x pos] X.env)).any (·.1) = false := by rfl) :
    EV X E p w (.Call (.Name "isinstance" pp) [a, .Name x pos] [] cpos) (eUn (dIsi T) fa) := by
  obtain ⟨t, pt, rt⟩ := ha.ex
  refine ⟨_, pe_callB call_isi hg hm (by decide +kernel) (pa_cons pt (pa_cons (pe_bltn (v := .ty T) hg2 hm2 hv rfl hn hdb) pa_nil he2) he) (by decide) (by decide) he hpl, fun O W σ H ρ Q s h => ?_⟩
  refine rt O W σ H ρ _ s (h.bind.mono (fun x hx v H1 po r => ?_) fun _ _ z => z)
  obtain ⟨z, ez, hz⟩ := hx.bind.ofO
  unfold dIsi at ez
  cases ek : kitB (tyD x.1) T with
  | none => rw [ek] at ez; cases ez
  | some k =>
    rw [ek] at ez
    cases ez
    exact ⟨v, .ty T, .type (tyD x.1), .type T, k, rfl, .ty T, r.ty, kit_ty ek, hz _ H1 po (.inl (.bl k))⟩
def reprD (d : D) : Option D := if (dP d).showable = true ∧ (dP d).hasDict = false ∧ (dP d).depth < 60 ∧ (dP d).shown.length ≤ sizeLine then some (.str (dP d).shown) else none
def dRepr : List D → Option D
  | [d] => reprD d
  | _ => none
theorem cr_repr (hgd : X.A.guards = some []) (hu : X.A.units + 64 < cLine) : CallR X (.builtin "repr") (rRepr X.K) := by
  intro pins s σ H xs us Q I r h
  obtain ⟨v, d, rfl, hd, h1, h2, h3, h4, q⟩ := h
  obtain ⟨u, rfl, r1⟩ := vals1 r
  obtain ⟨as, rd⟩ := Dp.reads I d v u hd r1
  have fin : ∀ n (t : Nat), EP X pins σ Q (.str d.shown n) { s with toks := t } := fun n t => ⟨.str d.shown, H, I.tok _, ⟨_, rfl⟩, q⟩
  have big : ∀ a, u = Value.ref a → wpAny (model X.prog X.w) X.A (call (.builtin "repr") [u]) (EP X pins σ Q) X.xe s := fun a e => by
    subst e
    exact repr_of_reads' rd h1 (fun z => by rw [h2] at z; cases z) hgd (by omega) (fun _ _ e => e) (fun h' u tk hk => ⟨.str d.shown, H, I.kept hk, ⟨_, rfl⟩, q⟩) h4
  cases hd with
  | non =>
    obtain rfl : u = Value.none := r1
    exact PySem.P.repr_of_none (fin _ _)
  | bl b =>
    obtain rfl : u = Value.bool b := r1
    exact PySem.P.repr_of_bool (fin _ _)
  | int i =>
    obtain ⟨t, rfl⟩ := r1
    exact PySem.P.repr_of_int (by simpa [PyData.showable] using h1) (fin _ _)
  | str x =>
    obtain ⟨t, rfl⟩ := r1
    exact PySem.P.repr_of_str (fin _ _) h4
  | lst h t => exact big _ r1
  | tup h t => exact big _ r1
theorem cd_repr : Cd K w (rRepr K) dRepr := by
  intro O H xs as c Q al r e hq
  match as, r, e with
  | [d], r, e =>
    obtain ⟨x, rfl, rr⟩ := one_of r
    have e : reprD d = some c := e
    unfold reprD at e
    split at e
    · rename_i hh
      cases e
      exact ⟨x, _, rfl, rr.dp, hh.1, hh.2.1, hh.2.2.1, hh.2.2.2, hq _ H (same_refl H) (.str _)⟩
    · cases e
def findI (i : Int) : List Int → Option Nat
  | [] => none
  | j :: r => if j == i then some 0 else (findI i r).map (· + 1)
def dIndex (a b : D) : Option D := match a, b with
  | .lst ds, .int i => ((intsD ds).bind (findI i)).map fun (n : Nat) => D.int n
  | _, _ => none
theorem findI_spec {i : Int} : ∀ {l : List Int} {n : Nat}, findI i l = some n → l[n]? = some i ∧ ∀ m z, m < n → l[m]? = some z → (z == i) = false
  | [], _, h => by cases h
  | j :: r, n, h => by
    unfold findI at h
    split at h
    · rename_i hj
      cases h
      exact ⟨by simpa using hj, fun m z hm => by omega⟩
    · rename_i hj
      cases e : findI i r with
      | none => rw [e] at h; cases h
      | some k =>
        rw [e] at h
        obtain rfl : k + 1 = n := Option.some.inj h
        obtain ⟨h1, h2⟩ := findI_spec e
        refine ⟨by simpa using h1, fun m z hm hz => ?_⟩
        cases m with
        | zero => simp at hz; subst hz; simpa using hj
        | succ m => exact h2 m z (by omega) (by simpa using hz)
theorem flat_ints (ns : List Int) : (ns.map V.int).all flatV = true := by
  rw [List.all_map]
  exact List.all_eq_true.mpr fun _ _ => rfl
def lstD : D → Option (List D)
  | .lst ds => some ds
  | _ => none
def eIndex (a b : ES) : ES := fun ρ => (a ρ).bind fun x => (ofO (lstD x.1)).bind fun ds => (b x.2).bind fun y => (ofO (dIndex (.lst ds) y.1)).bind fun z => .ok (z, y.2)
theorem ev_index (ha : EV X E p w1 a fa) (hb : EV X E q w2 b fb) (hw : (!w1 || q) = true := by rfl)
    (hbase : attributeBase a "index" X.env (eval a X.env) = eval a X.env := by rfl)
    (hfew : ((backTo cpos (starEach (b :: []) X.env)).all (fun x => !x.1) && (backToKw cpos (keywordEach [] X.env)).all (fun x => x.1.isSome)
      && decide ((b :: ([] : List Expr)).length + ([] : List Keyword).length + (if ([] : List Keyword).isEmpty then 0 else 1) < 30)) = true := by rfl)
    (hline : (apos.endLine == cpos.line) = true := by rfl) (hs : starEach (b :: []) X.env = (false, eval b X.env) :: starEach [] X.env := by rfl) (hpl : (backTo cpos (starEach [] X.env)).any (·.1) = false := by rfl) :
    EV X E (p && q) w (.Call (.Attribute a "index" apos) [b] [] cpos) (eIndex fa fb) := by
  obtain ⟨ta, pa, ra⟩ := ha.ex
  obtain ⟨tb, pb, rb⟩ := hb.ex
  refine ⟨_, pe_bm PySem.F.plainAttrs_list PySem.F.slot_list_index PySem.F.type_list_index (fun pins s σ H x xs v us Q I r1 r2 h => mt_index pins s σ H x xs v us Q I r1 r2 h) pa (pa_cons pb pa_nil hs) hbase hfew hline hs hpl, fun O W σ H ρ Q s h => ?_⟩
  refine ra O W σ H ρ _ s (h.bind.mono (fun x hx v H1 po r1 => ?_) fun _ _ z => z)
  obtain ⟨d, ρ1⟩ := x
  obtain ⟨ds, eds, hx⟩ := hx.bind.ofO
  cases d with
  | lst ds' =>
    cases eds
    refine ⟨?_, ?_⟩
    · obtain ⟨l, vs, rfl, h1, h2⟩ := r1.lst_inv
      exact .inl ⟨rfl, vs, h1⟩
    refine rb O W σ H1 ρ1 _ po.st (hx.bind.mono (fun y hy u H' po2 r2 => ?_) fun _ _ z => z.on po.ext)
    obtain ⟨z, ez, hz⟩ := hy.bind.ofO
    obtain ⟨l, vs, rfl, h1, h2⟩ := (po2.keepW hw r1).lst_inv
    obtain ⟨dy, ρ2⟩ := y
    cases dy with
    | int i =>
      have ez : ((intsD ds).bind (findI i)).map (fun (n : Nat) => D.int n) = some z := ez
      cases e1 : intsD ds with
      | none => rw [e1] at ez; cases ez
      | some ns =>
        rw [e1, Option.bind_some] at ez
        cases e2 : findI i ns with
        | none => rw [e2] at ez; cases ez
        | some j =>
          rw [e2] at ez
          cases ez
          rw [ints_reps h2 e1] at h1
          obtain ⟨g1, g2⟩ := findI_spec e2
          refine ⟨l, _, .int i, j, .int i, rfl, by rw [r2.int_inv], h1, rfl, flat_ints ns, by rw [List.getElem?_map, g1]; rfl, by simp [eqV], fun m z' hm hz' => ?_, hz _ H' (po.trans po2) (.inl (.int _))⟩
          rw [List.getElem?_map] at hz'
          cases e3 : ns[m]? with
          | none => rw [e3] at hz'; cases hz'
          | some k =>
            rw [e3] at hz'
            cases hz'
            exact g2 m k hm e3
    | _ => cases ez
  | _ => cases eds
def rgD (a b : Int) : Option (List D) := if (-(2 ^ 62) ≤ a ∧ a < 2 ^ 62) ∧ (-(2 ^ 62) ≤ b ∧ b < 2 ^ 62) ∧ (b - a).toNat ≤ 2 ^ 24 then some ((List.range (b - a).toNat).map fun i => D.int (a + (i : Nat))) else none
def oRg1 (f : ES) : AS := fun ρ => (f ρ).bind fun x => match x.1 with
  | .int n => (ofO (rgD 0 n)).bind fun ds => .ok (ds, x.2)
  | _ => .bad
def oRg2 (f g : ES) : AS := fun ρ => (f ρ).bind fun x => (g x.2).bind fun y => match x.1, y.1 with
  | .int m, .int n => (ofO (rgD m n)).bind fun ds => .ok (ds, y.2)
  | _, _ => .bad
theorem reps_rg {O : Addr → Prop} {H : Hp} (a : Int) (n : Nat) : Reps K O H ((List.range n).map fun i => V.int (a + (i : Nat))) ((List.range n).map fun i => D.int (a + (i : Nat))) := by
  have e1 : ((List.range n).map fun i => V.int (a + (i : Nat))) = ((List.range n).map fun i => a + (i : Nat)).map V.int := by rw [List.map_map] <;> rfl
  have e2 : ((List.range n).map fun i => D.int (a + (i : Nat))) = ((List.range n).map fun i => a + (i : Nat)).map D.int := by rw [List.map_map] <;> rfl
  rw [e1, e2]
  exact reps_ints _
theorem rgD_some {a b : Int} {ds : List D} (h : rgD a b = some ds) : RgOk a b ∧ ds = (List.range (b - a).toNat).map fun i => D.int (a + (i : Nat)) := by
  unfold rgD at h
  split at h
  · rename_i hh
    exact ⟨⟨hh.1.1, hh.1.2, hh.2.1.1, hh.2.1.2, hh.2.2⟩, (Option.some.inj h).symm⟩
  · cases h
theorem eo_listRg1 {p1 p2 : Pos} (hc : X.calm = true) (hg : Gl X "list") (hm : X.mg "list" = none) (hg2 : Gl X "range") (hm2 : X.mg "range" = none) (ha : EV X E p false a fa)
    (na : starEach [a] X.env = (false, eval a X.env) :: starEach [] X.env := by rfl) (nb : starEach [Expr.Call (.Name "range" p1) [a] [] p2] X.env = (false, eval (Expr.Call (.Name "range" p1) [a] [] p2) X.env) :: starEach [] X.env := by rfl) :
    EO X E p (.Call (.Name "list" pp) [.Call (.Name "range" p1) [a] [] p2] [] pos) (oRg1 fa) := by
  obtain ⟨t, pt, rt⟩ := ha.ex
  refine ⟨_, pe_listRg hc hg hm (prg_1 hg2 hm2 pt na) nb, fun O W σ H ρ Q s h => ?_⟩
  refine rt O W σ H ρ _ s (h.bind.mono (fun x hx v H1 po r => ?_) fun _ _ z => z)
  obtain ⟨d, ρ1⟩ := x
  cases d with
  | int n =>
    obtain ⟨ds, e, hz⟩ := hx.bind.ofO
    obtain ⟨ok, rfl⟩ := rgD_some e
    exact ⟨n, r.int_inv, ok, fun q hq => eo_end hz po q _ hq (reps_rg _ _) (po.free' hq)⟩
  | _ => exact hx.elim
theorem eo_listRg2 {p1 p2 : Pos} (hc : X.calm = true) (hg : Gl X "list") (hm : X.mg "list" = none) (hg2 : Gl X "range") (hm2 : X.mg "range" = none) (ha : EV X E p false a fa) (hb : EV X E q false b fb)
    (na : starEach [a, b] X.env = (false, eval a X.env) :: starEach [b] X.env := by rfl) (nc : starEach [b] X.env = (false, eval b X.env) :: starEach [] X.env := by rfl) (hp : (backTo p2 (starEach [b] X.env)).any (·.1) = false := by rfl)
    (nb : starEach [Expr.Call (.Name "range" p1) [a, b] [] p2] X.env = (false, eval (Expr.Call (.Name "range" p1) [a, b] [] p2) X.env) :: starEach [] X.env := by rfl) :
    EO X E (p && q) (.Call (.Name "list" pp) [.Call (.Name "range" p1) [a, b] [] p2] [] pos) (oRg2 fa fb) := by
  obtain ⟨t, pt, rt⟩ := ha.ex
  obtain ⟨t2, pt2, rt2⟩ := hb.ex
  refine ⟨_, pe_listRg hc hg hm (prg_2 hg2 hm2 pt pt2 na nc hp) nb, fun O W σ H ρ Q s h => ?_⟩
  refine rt O W σ H ρ _ s (h.bind.mono (fun x hx v H1 po r => ?_) fun _ _ z => z)
  refine rt2 O W σ H1 _ _ po.st (hx.bind.mono (fun y hy v2 H2 po2 r2 => ?_) fun _ _ z => z.on po.ext)
  obtain ⟨d, ρ1⟩ := x
  obtain ⟨d2, ρ2⟩ := y
  cases d with
  | int m =>
    cases d2 with
    | int n =>
      obtain ⟨ds, e, hz⟩ := hy.bind.ofO
      obtain ⟨ok, rfl⟩ := rgD_some e
      exact ⟨m, n, r.int_inv, r2.int_inv, ok, fun q hq => eo_end hz (po.trans po2) q _ hq (reps_rg _ _) ((po.trans po2).free' hq)⟩
    | _ => exact hy.elim
  | _ => exact hy.elim
def aStar (f : ES) (r : AS) : AS := fun ρ => (f ρ).bind fun x => (ofO (seqD x.1)).bind fun ds => (r x.2).bind fun y => .ok (ds ++ y.1, y.2)
theorem paired_of {O : Addr → Prop} {H : Hp} : ∀ {vs : List V} {ds : List D}, Reps K O H vs ds → Paired (RepW w K O H) vs ds
  | _, _, .nil => .nil
  | _, _, .cons r t => .cons (.inl r) (paired_of t)
theorem Paired.app {α β : Type} {R : α → β → Prop} : ∀ {as cs : List α} {bs ds : List β}, Paired R as bs → Paired R cs ds → Paired R (as ++ cs) (bs ++ ds)
  | _, _, _, _, .nil, h => h
  | _, _, _, _, .cons r t, h => .cons r (Paired.app t h)
theorem av_star {pst : Pos} (ha : EV X E p w1 e fe) (hr : AV X E q w es ar) (hw : (!w || q) = true := by rfl) (hs : starEach (.Starred e pst :: es) X.env = (true, eval e X.env) :: starEach es X.env := by rfl) : AV X E (p && q) w (.Starred e pst :: es) (aStar fe ar) := by
  obtain ⟨ta, pa, ra⟩ := ha.ex
  obtain ⟨tb, pb, rb⟩ := hr.ex
  refine ⟨_, StX.pa_star pa pb hs, fun O W σ H ρ Q s h => ?_⟩
  refine ra O W σ H ρ _ s (h.bind.mono (fun x hx v H1 po r => ?_) fun _ _ z => z)
  obtain ⟨ds, eds, hx⟩ := hx.bind.ofO
  have main : ∃ a vs, v = V.ref a ∧ (SqT X.K H1 a vs ∨ SqL X.K H1 a vs) ∧ Reps X.K O H1 vs ds := by
    obtain ⟨d, ρ1⟩ := x
    cases d with
    | tup es =>
      cases eds
      obtain ⟨a, vs, h1, h2, h3⟩ := r.tup_inv
      exact ⟨a, vs, h1, .inl h2.sq, h3⟩
    | lst es =>
      cases eds
      obtain ⟨a, vs, h1, h2, h3⟩ := r.lst_inv
      exact ⟨a, vs, h1, .inr h2, h3⟩
    | _ => cases eds
  obtain ⟨a, vs, h1, h2, h3⟩ := main
  refine ⟨a, vs, h1, h2, ?_⟩
  refine rb O W σ H1 x.2 _ po.st (hx.bind.mono (fun y hy us H2 po2 r2 => ?_) fun _ _ z => z.on po.ext)
  exact hy (vs ++ us) H2 (po.trans po2) (Paired.app (paired_of (h3.ext po2.ext po2.st.sub)) r2)
variable {i : Nat} {x : Str}
def sPut (i : Nat) (fi fe : ES) : List B → Fl := fun ρ => sRs (fe ρ) fun x => sRs (atOw i x.2) fun _ => sRs (fi x.2) fun y => sRs (atOw i y.2) fun z => match y.1 with
  | .int k => match ixN z.2.length k with
    | some j => .nx (y.2.set i (.ow z.1 (z.2.set j x.1)))
    | none => .bad
  | _ => .bad
theorem rs_at {bs : Bs} {O W : Addr → Prop} {H : Hp} {De : Ends} {i : Nat} {ρ : List B} {k : Bool × List D → Fl} (h : FlOk X E bs O W H De (sRs (atOw i ρ) k)) : ∃ kb ds, ρ[i]? = some (.ow kb ds) ∧ FlOk X E bs O W H De (k (kb, ds)) := by
  cases e : atOw i ρ with
  | ok y =>
    rw [e] at h
    exact ⟨y.1, y.2, atOw_ok e, h⟩
  | exc c x => exact absurd e (atOw_no c x)
  | bad => rw [e] at h; exact h.elim
theorem ss_put (i : Nat) {x : Str} {npos tpos : Pos} (hb : EV X E p false b fb) (he : EV X E q false e fe) (hN : X.N[i]? = some x := by rfl) (hv : Vis X.env.scope x := by first | exact Or.inl rfl | exact Or.inr (Or.inl rfl) | exact Or.inr (Or.inr rfl)) (hd : (x == ("__debug__" : Str)) = false := by decide)
    (hcd : (x == ("__classdict__" : Str)) = false := by decide)
    (ha : ∀ v, assign (.Subscript (.Name x npos) b tpos) X.env v = (do
      let ov ← holding [v] (eval (.Name x npos) X.env)
      let iv ← holding [v, ov] (eval b X.env)
      standAt tpos
      holding [v, ov, iv] (setItem ov iv v)
      release [v, ov, iv] []) := by intro _; rfl)
    (hs : swapsWithSole [.Subscript (.Name x npos) b tpos] e pos.line X.env = pure false := by rfl) (hw : swappedStores [.Subscript (.Name x npos) b tpos] e X.env = pure none := by rfl)
    (h1 : (assignEach [.Subscript (.Name x npos) b tpos] X.env).map (·.2) = [assign (.Subscript (.Name x npos) b tpos) X.env] := by rfl) :
    SS X E (.Assign [.Subscript (.Name x npos) b tpos] e pos) (sPut i fb fe) := by
  obtain ⟨tb, pb, rb⟩ := hb.ex
  obtain ⟨te, pe, re⟩ := he.ex
  refine ⟨_, ps_asg pe (pg_sub (pe_var (i := i) hN hv hd hcd) pb set_list ha) hs hw h1, fun bs O W De σ H ρ s h => ?_⟩
  refine re O W σ H ρ _ s.st ((FlOk.rs s h).mono (fun x hx v H1 po r => ?_) fun _ _ z => z)
  have s1 := s.post po
  have t1 := s.tr po
  obtain ⟨k0, ds0, e0, hx⟩ := rs_at (FlOk.on hx s.st.sub t1)
  obtain ⟨a, us0, h1, h2, h3, h4⟩ := s1.st.slot i _ e0
  refine ⟨.ref a, h1, ?_⟩
  refine rb O W σ H1 x.2 _ s1.st ((FlOk.rs s1 hx).mono (fun y hy u H2 po2 r2 => ?_) fun _ _ z => z)
  have s2 := s1.post po2
  have t2 := s1.tr po2
  obtain ⟨k, ds, e1, hy⟩ := rs_at (FlOk.on hy s1.st.sub t2)
  obtain ⟨a', us, g1, g2, g3, g4⟩ := s2.st.slot i _ e1
  rw [h1] at g1
  cases g1
  obtain ⟨dy, ρ2⟩ := y
  cases dy with
  | int n =>
    have hy : FlOk X E bs O W H2 De (match ixN ds.length n with
      | some j => .nx (ρ2.set i (.ow k (ds.set j x.1)))
      | none => .bad) := hy
    cases ej : ixN ds.length n with
    | none => simp only [ej] at hy; exact hy.elim
    | some j =>
      simp only [ej] at hy
      obtain ⟨q1, q2, q3⟩ := s2.st.wr e1 h1 (g4.set (r.strict.ext po2.ext po2.st.sub) j)
      have po3 : Post false X.K O W σ H2 (upd H2 a (.lst (us.set j v))) ρ2 (ρ2.set i (.ow k (ds.set j x.1))) := ⟨q1, q2, q3, fun z => nomatch z⟩
      exact ⟨a, us, n, j, rfl, r2.int_inv, g3, by rw [g4.length]; exact ej, hy O W σ _ (s2.post po3) (s2.tr po3)⟩
  | _ => exact hy.elim
def sAug (i : Nat) (f : D → D → Option D) (fe : ES) : List B → Fl := fun ρ => sRs (eSlot i ρ) fun z => sRs (fe ρ) fun x => sRs (ofO (f z.1 x.1)) fun d => .nx (x.2.set i (.va d))
theorem ss_aug (i : Nat) {x : Str} {op : Operator} {ti : TIp} {f : D → D → Option D} {pos' : Pos} (ho : PIp X op ti) (hd : Od X.K false w2 ti f) (he : EV X E p w2 e fe) (hN : X.N.Nodup) (hi : X.N[i]? = some x := by rfl) (hx : Loc X.env.scope x := by first | exact Or.inl rfl | exact Or.inr rfl)
    (hf : X.fn x = true ∨ X.env.scope.names.lookup x = some .local := by first | exact .inl rfl | exact .inr rfl) : SS X E (.AugAssign (.Name x pos') op e pos) (sAug i f fe) := by
  obtain ⟨t, pt, rt⟩ := he.ex
  refine ⟨_, ps_aug hN hi hx pt ho hf, fun b O W De σ H ρ s h => ?_⟩
  unfold sAug eSlot at h
  cases ei : ρ[i]? with
  | none => simp only [ei] at h; exact h.elim
  | some c =>
    cases c with
    | va d =>
      simp only [ei] at h
      have h : FlOk X E b O W H De (sRs (fe ρ) fun x => sRs (ofO (f d x.1)) fun d => .nx (x.2.set i (.va d))) := h
      obtain ⟨v, h1, h2⟩ := s.st.slot i _ ei
      refine ⟨v, h1, rt O W σ H ρ _ s.st ((FlOk.rs s h).mono (fun x hx u H1 po r => ?_) fun _ _ z => z)⟩
      cases ef : f d x.1 with
      | none => rw [ef] at hx; exact hx.elim
      | some c =>
        rw [ef] at hx
        refine hd O H1 v u d x.1 c _ po.st.al (.inl (h2.ext po.ext po.st.sub)) r ef fun z H2 sm rz => ?_
        have po2 := po.more sm
        exact hx O W _ H2 ((s.post po2).put rz) (s.tr po2)
    | _ => simp only [ei] at h; exact h.elim
theorem pip_of {op : Operator} {r : R2} (h : OpR X (inplaceOp op) r) : PIp X op r := h
theorem od_iadd : Od K w1 w2 (rI0 fun i j => .int (i + j)) (fun a b => match a, b with | .int i, .int j => some (.int (i + j)) | _, _ => none) := od_int0 (g := fun i j => .int (i + j)) (fun a b c e => by
  cases a <;> cases b <;> cases e
  exact ⟨_, _, rfl, rfl, rfl⟩) fun _ _ _ _ => .int _
end
end RT
namespace RT
open PySem PySem.Spec PyProof.Rows L2
inductive MI (K : PySem.W.Frag) (O : Addr → Prop) (H : Hp) : List Addr → List V → List B → Prop
  | nil : MI K O H [] [] []
  | va {qs : List Addr} {v : V} {vs : List V} {d : D} {bs : List B} : Rep K O H v d → MI K O H qs vs bs → MI K O H qs (v :: vs) (.va d :: bs)
  | ow {qs : List Addr} {q : Addr} {us : List V} {ds : List D} {vs : List V} {bs : List B} : O q → H q = some (.lst us) → Reps K O H us ds → MI K O H qs vs bs → MI K O H (q :: qs) (.ref q :: vs) (.ow false ds :: bs)
theorem MI.less {K : PySem.W.Frag} {O O' : Addr → Prop} {H : Hp} (h : ∀ a, O' a → O a) : ∀ {qs : List Addr} {vs : List V} {bs : List B}, MI K O H qs vs bs → (∀ q ∈ qs, O' q) → MI K O' H qs vs bs
  | _, _, _, .nil, _ => .nil
  | _, _, _, .va r t, k => .va (r.less h) (MI.less h t k)
  | _, _, _, .ow o e r t, k => .ow (k _ List.mem_cons_self) e (r.less h) (MI.less h t fun q z => k q (List.mem_cons_of_mem _ z))
abbrev MS := List B → Rs (List B × List B)
structure MV (X : Cx) (E : XK) (es : List Expr) (f : MS) : Prop where
  ex : ∃ t, PA X es t ∧ ∀ (O W : Addr → Prop) (σ : St) (H : Hp) (ρ : List B) (Q : List V → Hp → Prop), StR X.K O W σ H ρ →
    Wr (f ρ) (fun r => ∀ vs qs H', StR X.K (fun a => O a ∨ a ∈ qs) W σ H' r.2 → Ext W H H' → Kd ρ r.2 → qs.Nodup → (∀ q ∈ qs, H q = none) → MI X.K (fun a => O a ∨ a ∈ qs) H' qs vs r.1 → Q vs H') (EX X E O W H) → t σ H Q
def mNil : MS := fun ρ => .ok ([], ρ)
def mVa (f : ES) (g : MS) : MS := fun ρ => (f ρ).bind fun x => (g x.2).bind fun y => .ok (.va x.1 :: y.1, y.2)
def mOw (f : AS) (g : MS) : MS := fun ρ => (f ρ).bind fun x => (g x.2).bind fun y => .ok (.ow false x.1 :: y.1, y.2)
section
variable {X : Cx} {E : XK} {p : Bool} {e : Expr} {es : List Expr} {fe : ES} {ar : AS} {g : MS} {pos : Pos}
theorem mv_nil : MV X E [] mNil := ⟨_, pa_nil, fun O W σ H ρ Q s h => h [] [] H (s.lessO (O := fun a => O a ∨ a ∈ ([] : List Addr)) (fun a z => z.elim id fun z => nomatch z) (fun a z => .inl (s.sub a z))) (Ext.refl _ _) (fun _ => rfl) .nil (fun _ z => nomatch z) .nil⟩
theorem Rep.shunL {K : PySem.W.Frag} {O W : Addr → Prop} {H H' : Hp} {qs : List Addr} {v : V} {d : D} (r : Rep K O H v d) (e : Ext W H H') (s : ∀ a, W a → O a) (n : ∀ q ∈ qs, H q = none) : Rep K (fun a => O a ∨ a ∈ qs) H' v d :=
  (r.shun (O' := fun a => O a ∨ a ∈ qs) fun a z => z.elim .inl fun z => .inr (n a z)).ext e fun a z => .inl (s a z)
theorem mv_va (ha : EV X E p false e fe) (hr : MV X E es g) (hs : starEach (e :: es) X.env = (false, eval e X.env) :: starEach es X.env := by rfl) : MV X E (e :: es) (mVa fe g) := by
  obtain ⟨ta, pa, ra⟩ := ha.ex
  obtain ⟨tb, pb, rb⟩ := hr.ex
  refine ⟨_, pa_cons pa pb hs, fun O W σ H ρ Q s h => ?_⟩
  refine ra O W σ H ρ _ s (h.bind.mono (fun x hx v H1 po r => ?_) fun _ _ z => z)
  refine rb O W σ H1 x.2 _ po.st (hx.bind.mono (fun y hy vs qs H2 st e2 k2 nd n2 mi => ?_) fun _ _ z => z.on po.ext)
  refine hy (v :: vs) qs H2 st (po.ext.trans e2) (fun i => (k2 i).trans (po.kd i)) nd (fun q z => po.free' (n2 q z)) (.va (r.strict.shunL e2 po.st.sub n2) mi)
theorem StR.apartO {K : PySem.W.Frag} {O W : Addr → Prop} {σ : St} {H H' : Hp} {ρ ρ' : List B} {q : Addr} {p : Bool} (s : StR K O W σ H ρ) (po : Post p K O W σ H H' ρ ρ') (n : H q = none) (st : StR K (fun a => O a ∨ a = q) (fun a => W a ∨ a = q) σ H' ρ') : StR K (fun a => O a ∨ a = q) W σ H' ρ' where
  len := st.len
  slot := fun i b e => by
    have q1 := st.slot i b e
    have q2 := po.st.slot i b e
    cases b with
    | un => exact trivial
    | va d => exact q1
    | ow k ds =>
      obtain ⟨p1, vs1, h1, h2, h3, h4⟩ := q1
      obtain ⟨p2, vs2, g1, g2, g3, g4⟩ := q2
      rw [h1] at g1
      cases g1
      exact ⟨p1, vs1, h1, g2, h3, h4⟩
  apart := st.apart
  sub := fun a z => .inl (s.sub a z)
  al := st.al
theorem EX.more {O O' W : Addr → Prop} {H : Hp} {c : Str} {x : D} (h : EX X E O W H c x) (k : ∀ a, O a → O' a) : EX X E O' W H c x := fun cls d H' e r => by
  obtain ⟨C, dd, v, h1, h2, h3, h4, h5⟩ := r
  exact h cls d H' e ⟨C, dd, v, h1, h2, h3, h4, h5.less k⟩
theorem mv_ow (ha : EO X E p e ar) (hr : MV X E es g) (hs : starEach (e :: es) X.env = (false, eval e X.env) :: starEach es X.env := by rfl) : MV X E (e :: es) (mOw ar g) := by
  obtain ⟨ta, pa, ra⟩ := ha.ex
  obtain ⟨tb, pb, rb⟩ := hr.ex
  refine ⟨_, pa_cons pa pb hs, fun O W σ H ρ Q s h => ?_⟩
  refine ra O W σ H ρ _ s (h.bind.mono (fun x hx q us H1 n po st hq r => ?_) fun _ _ z => z)
  have s1 := s.apartO po n st
  have nw : ¬ W q := fun z => s.al q (s.sub q z) n
  refine rb (fun a => O a ∨ a = q) W σ H1 x.2 _ s1 (hx.bind.mono (fun y hy vs qs H2 st2 e2 k2 nd n2 mi => ?_) fun _ _ z => (z.on po.ext).more fun a z => .inl z)
  have hq2 : H2 q = some (.lst us) := e2 q _ nw hq
  have fre : ∀ a ∈ q :: qs, H a = none := fun a z => by
    rcases List.mem_cons.mp z with z | z
    · rw [z]; exact n
    · exact po.free' (n2 a z)
  have nq : q ∉ qs := fun z => by
    have := n2 q z
    rw [hq] at this; cases this
  have conv : ∀ a, (O a ∨ a ∈ q :: qs) → ((O a ∨ a = q) ∨ a ∈ qs) := fun a z => by
    rcases z with z | z
    · exact .inl (.inl z)
    · rcases List.mem_cons.mp z with z | z
      · exact .inl (.inr z)
      · exact .inr z
  have rr : Reps X.K (fun a => (O a ∨ a = q) ∨ a ∈ qs) H2 us x.1 := (r.shun (O' := fun a => (O a ∨ a = q) ∨ a ∈ qs) fun a z => z.elim .inl fun z => .inr (n2 a z)).ext e2 fun a z => .inl (.inl (s.sub a z))
  refine hy (.ref q :: vs) (q :: qs) H2 (st2.lessO (O := fun a => O a ∨ a ∈ q :: qs) conv fun a z => .inl (s.sub a z)) (po.ext.trans e2) (fun i => (k2 i).trans (po.kd i)) (List.nodup_cons.mpr ⟨nq, nd⟩) fre ?_
  refine MI.less conv (.ow (.inl (.inr rfl)) hq2 rr mi) fun a z => .inr z
end
def setS (σ : St) : List Nat → List V → St
  | i :: is, v :: vs => setS (σ.set i (some v)) is vs
  | _, _ => σ
def setB (ρ : List B) : List Nat → List B → List B
  | i :: is, b :: bs => setB (ρ.set i b) is bs
  | _, _ => ρ
theorem SI.putQ {K : PySem.W.Frag} {b : Bs} {O W : Addr → Prop} {σ : St} {H : Hp} {ρ : List B} {i : Nat} {q : Addr} {us : List V} {ds : List D} (s : SI K b O W σ H ρ) (oq : O q) (bn : b.H q = none) (hq : H q = some (.lst us)) (r : Reps K O H us ds)
    (oth : ∀ j : Nat, isOw ρ[j]? = true → σ[j]? ≠ some (some (.ref q))) : SI K b O (fun a => W a ∨ a = q) (σ.set i (some (.ref q))) H (ρ.set i (.ow false ds)) := by
  have st := s.st
  have hlt : ∀ {j : Nat} {c : B}, (ρ.set i (.ow false ds))[j]? = some c → j < σ.length := fun {j c} e => by
    have := (List.getElem?_eq_some_iff.mp e).1
    rw [List.length_set] at this
    rw [st.len]; exact this
  have ow' : ∀ {j : Nat}, isOw (ρ.set i (.ow false ds))[j]? = true → (i = j ∧ i < ρ.length) ∨ (i ≠ j ∧ isOw ρ[j]? = true) := fun {j} h => by
    unfold isOw at h
    rw [kind_set] at h
    split at h
    · exact .inl (by assumption)
    · rename_i hh
      by_cases e : i = j
      · subst e
        have : ρ[i]? = none := List.getElem?_eq_none (by omega)
        rw [this] at h; cases h
      · exact .inr ⟨e, h⟩
  refine ⟨⟨?_, fun j c e => ?_, fun j k a h1 h2 h3 h4 => ?_, fun a z => z.elim (st.sub a) fun e => e ▸ oq, st.al⟩, s.ext, s.bal, s.up, s.bsub, fun a z => z.elim (s.own a) fun e => .inr (e ▸ bn), fun j a h1 h2 => ?_, fun j h1 => ?_⟩
  · rw [List.length_set, List.length_set]; exact st.len
  · have hj := hlt e
    rcases set_some e with ⟨e1, e2⟩ | ⟨e1, e2⟩
    · subst e1; subst e2
      exact ⟨q, us, by rw [List.getElem?_set_self hj], .inr rfl, hq, r⟩
    · have h := st.slot j c e2
      rw [List.getElem?_set_ne e1]
      cases c with
      | un => exact trivial
      | va d => exact h
      | ow k ds' =>
        obtain ⟨p, vs, g1, g2, g3, g4⟩ := h
        exact ⟨p, vs, g1, .inl g2, g3, g4⟩
  · rcases ow' h1 with ⟨a1, l1⟩ | ⟨a1, o1⟩ <;> rcases ow' h2 with ⟨a2, l2⟩ | ⟨a2, o2⟩
    · rw [← a1, ← a2]
    · subst a1
      have hl : i < σ.length := by rw [st.len]; exact l1
      rw [List.getElem?_set_self hl] at h3
      rw [List.getElem?_set_ne a2] at h4
      cases h3
      exact absurd h4 (oth k o2)
    · subst a2
      have hl : i < σ.length := by rw [st.len]; exact l2
      rw [List.getElem?_set_self hl] at h4
      rw [List.getElem?_set_ne a1] at h3
      cases h4
      exact absurd h3 (oth j o1)
    · rw [List.getElem?_set_ne a1] at h3
      rw [List.getElem?_set_ne a2] at h4
      exact st.apart j k a o1 o2 h3 h4
  · rw [kind_set] at h1
    split at h1
    · rename_i hh
      obtain ⟨e1, l1⟩ := hh
      subst e1
      rw [List.getElem?_set_self (by rw [st.len]; exact l1)] at h2
      cases h2
      exact bn
    · rename_i hh
      by_cases e : i = j
      · subst e
        have : ρ[i]? = none := List.getElem?_eq_none (by omega)
        rw [this] at h1; cases h1
      · rw [List.getElem?_set_ne e] at h2
        exact s.loc j a h1 h2
  · rw [kind_set] at h1
    split at h1
    · cases h1
    · rename_i hh
      by_cases e : i = j
      · subst e
        have : ρ[i]? = none := List.getElem?_eq_none (by omega)
        rw [this] at h1; cases h1
      · rw [List.getElem?_set_ne e]
        exact s.bor j h1
theorem SI.setM {K : PySem.W.Frag} {b : Bs} {O : Addr → Prop} {H : Hp} : ∀ {qs : List Addr} {vs : List V} {bs : List B} {is : List Nat} {W : Addr → Prop} {σ : St} {ρ : List B}, MI K O H qs vs bs → SI K b O W σ H ρ → qs.Nodup → (∀ q ∈ qs, b.H q = none) →
    (∀ q ∈ qs, ∀ j : Nat, isOw ρ[j]? = true → σ[j]? ≠ some (some (.ref q))) → is.length = vs.length → ∃ W', SI K b O W' (setS σ is vs) H (setB ρ is bs) ∧ ∀ a, W' a → W a ∨ a ∈ qs
  | _, _, _, [], W, σ, ρ, .nil, s, _, _, _, _ => ⟨W, s, fun a z => .inl z⟩
  | _, _, _, _ :: _, _, _, _, .nil, _, _, _, _, hl => by simp at hl
  | _, _, _, [], _, _, _, .va _ _, _, _, _, _, hl => by simp at hl
  | _, _, _, [], _, _, _, .ow _ _ _ _, _, _, _, _, hl => by simp at hl
  | qs, _, _, i :: is, W, σ, ρ, .va r t, s, nd, bn, oth, hl => by
    refine SI.setM (is := is) t (s.put (i := i) r) nd bn (fun q hq j h1 h2 => ?_) (by simpa using hl)
    have st := s.st
    unfold isOw at h1
    rw [kind_set] at h1
    split at h1
    · cases h1
    · rename_i hh
      by_cases e : i = j
      · subst e
        have : ρ[i]? = none := List.getElem?_eq_none (by omega)
        rw [this] at h1; cases h1
      · rw [List.getElem?_set_ne e] at h2
        exact oth q hq j h1 h2
  | _, _, _, i :: is, W, σ, ρ, .ow (qs := qs) (q := q) o e r t, s, nd, bn, oth, hl => by
    obtain ⟨nq, nd'⟩ := List.nodup_cons.mp nd
    have s1 := s.putQ (i := i) o (bn q List.mem_cons_self) e r (oth q List.mem_cons_self)
    obtain ⟨W', s2, h2⟩ := SI.setM (is := is) t s1 nd' (fun q' hq => bn q' (List.mem_cons_of_mem _ hq)) (fun q' hq j h1 h2 => by
      by_cases e : i = j
      · subst e
        rw [List.getElem?_set] at h2
        split at h2
        · split at h2
          · cases h2; exact nq hq
          · cases h2
        · rename_i z; exact z rfl
      · rw [List.getElem?_set_ne e] at h1 h2
        exact oth q' (List.mem_cons_of_mem _ hq) j h1 h2) (by simpa using hl)
    refine ⟨W', s2, fun a z => ?_⟩
    rcases h2 a z with (z | z) | z
    · exact .inl z
    · rw [z]; exact .inr List.mem_cons_self
    · exact .inr (List.mem_cons_of_mem _ z)
theorem MI.lens {K : PySem.W.Frag} {O : Addr → Prop} {H : Hp} : ∀ {qs : List Addr} {vs : List V} {bs : List B}, MI K O H qs vs bs → vs.length = bs.length
  | _, _, _, .nil => rfl
  | _, _, _, .va _ t => by rw [List.length_cons, List.length_cons, MI.lens t]
  | _, _, _, .ow _ _ _ t => by rw [List.length_cons, List.length_cons, MI.lens t]
def sPar (is : List Nat) (f : MS) : List B → Fl := fun ρ => sRs (f ρ) fun x => if x.1.length = is.length then .nx (setB x.2 is x.1) else .bad
section
variable {X : Cx} {E : XK} {es : List Expr} {g : MS} {pos : Pos}
theorem par_end {b : Bs} {O W : Addr → Prop} {De : Ends} {σ : St} {H : Hp} {ρ : List B} {is : List Nat} {R : List V → Hp → Prop} {t : TA} (s : SI X.K b O W σ H ρ)
    (rt : ∀ (O W : Addr → Prop) (σ : St) (H : Hp) (ρ : List B) (Q : List V → Hp → Prop), StR X.K O W σ H ρ →
      Wr (g ρ) (fun r => ∀ vs qs H', StR X.K (fun a => O a ∨ a ∈ qs) W σ H' r.2 → Ext W H H' → Kd ρ r.2 → qs.Nodup → (∀ q ∈ qs, H q = none) → MI X.K (fun a => O a ∨ a ∈ qs) H' qs vs r.1 → Q vs H') (EX X E O W H) → t σ H Q)
    (h : FlOk X E b O W H De (sPar is g ρ)) (hR : ∀ vs H', vs.length = is.length → De.nx (setS σ is vs) H' → R vs H') : t σ H R := by
  refine rt O W σ H ρ _ s.st ((FlOk.rs s h).mono (fun x hx vs qs H' st ex kd nd fr mi => ?_) fun _ _ z => z)
  have hlen := mi.lens
  by_cases hl : x.1.length = is.length
  · rw [if_pos hl] at hx
    have bn : ∀ q ∈ qs, b.H q = none := fun q hq => by
      have n := fr q hq
      cases e : b.H q with
      | none => rfl
      | some o =>
        by_cases w : b.W q
        · exact absurd n (s.st.al _ (s.up _ (s.bsub _ w)))
        · have := s.ext q o w e
          rw [n] at this; cases this
    have s1 : SI X.K b (fun a => O a ∨ a ∈ qs) W σ H' x.2 :=
      ⟨st, fun a o w h => ex a o (fun z => (s.own a z).elim w fun e => by rw [h] at e; cases e) (s.ext a o w h), s.bal, fun a z => .inl (s.up a z), s.bsub, s.own,
        fun i q e1 e2 => s.loc i q (by rw [← kd i]; exact e1) e2, fun i e1 => s.bor i (by rw [← kd i]; exact e1)⟩
    obtain ⟨W', s2, hw⟩ := SI.setM (is := is) mi s1 nd bn (fun q hq j h1 h2 => by
      have k1 : kindB x.2[j]? = kindB ρ[j]? := kd j
      cases ej : ρ[j]? with
      | none => rw [isOw, k1, ej] at h1; cases h1
      | some c =>
        cases c with
        | ow k es =>
          obtain ⟨p', vs', g1, g2, g3, g4⟩ := s.st.slot j _ ej
          rw [h2] at g1
          cases g1
          rw [fr q hq] at g3; cases g3
        | _ => rw [isOw, k1, ej] at h1; cases h1) (by rw [hlen]; exact hl.symm)
    exact hR vs H' (by rw [hlen]; exact hl) (hx _ _ _ _ s2 ⟨ex, fun a z => z.elim .inl fun z => .inr (fr a z), fun a z => (hw a z).elim .inl fun z => .inr (fr a z)⟩)
  · rw [if_neg hl] at hx
    exact hx.elim
theorem ss_par (i j : Nat) {x y : Str} {a b : Expr} {px py pt : Pos} {kt k2 : Nat} {pt2 : Pos} (hm : MV X E [a, b] g) (hc : X.calm = true) (hN : X.N.Nodup) (hi : X.N[i]? = some x := by rfl) (hj : X.N[j]? = some y := by rfl) (hij : i ≠ j := by decide)
    (hx : X.env.scope.names.lookup x = some .local := by rfl) (hy : X.env.scope.names.lookup y = some .local := by rfl)
    (hw : swappedStores [.Tuple [.Name x px, .Name y py] kt pt] (.Tuple [a, b] k2 pt2) X.env = pure (some [x, y]) := by rfl)
    (hs : swapsWithSole [.Tuple [.Name x px, .Name y py] kt pt] (.Tuple [a, b] k2 pt2) pos.line X.env = pure false := by rfl) :
    SS X E (.Assign [.Tuple [.Name x px, .Name y py] kt pt] (.Tuple [a, b] k2 pt2) pos) (sPar [i, j] g) := by
  obtain ⟨t, pt, rt⟩ := hm.ex
  refine ⟨_, ps_par hc hN hi hj hij hx hy pt hw hs, fun b O W De σ H ρ s h => ?_⟩
  refine par_end s rt h fun vs H' hl hn => ?_
  match vs, hl with
  | [v, w], _ => exact ⟨v, w, rfl, hn⟩
theorem ss_par3 (i j l : Nat) {x y z : Str} {a b c : Expr} {px py pz pt : Pos} {kt k2 : Nat} {pt2 : Pos} (hm : MV X E [a, b, c] g) (hc : X.calm = true) (hN : X.N.Nodup) (hi : X.N[i]? = some x := by rfl) (hj : X.N[j]? = some y := by rfl) (hl : X.N[l]? = some z := by rfl)
    (hij : i ≠ j := by decide) (hil : i ≠ l := by decide) (hjl : j ≠ l := by decide)
    (hx : X.env.scope.names.lookup x = some .local := by rfl) (hy : X.env.scope.names.lookup y = some .local := by rfl) (hz : X.env.scope.names.lookup z = some .local := by rfl)
    (hw : swappedStores [.Tuple [.Name x px, .Name y py, .Name z pz] kt pt] (.Tuple [a, b, c] k2 pt2) X.env = pure (some [x, y, z]) := by rfl)
    (hs : swapsWithSole [.Tuple [.Name x px, .Name y py, .Name z pz] kt pt] (.Tuple [a, b, c] k2 pt2) pos.line X.env = pure false := by rfl) :
    SS X E (.Assign [.Tuple [.Name x px, .Name y py, .Name z pz] kt pt] (.Tuple [a, b, c] k2 pt2) pos) (sPar [i, j, l] g) := by
  obtain ⟨t, pt, rt⟩ := hm.ex
  refine ⟨_, ps_par3 hc hN hi hj hl hij hil hjl hx hy hz pt hw hs, fun b O W De σ H ρ s h => ?_⟩
  refine par_end s rt h fun vs H' hl hn => ?_
  match vs, hl with
  | [v, w, u], _ => exact ⟨v, w, u, rfl, hn⟩
def sUnp (f : ES) (tg : D → Option (List (Nat × D))) : List B → Fl := fun ρ => sRs (f ρ) fun x => sRs (ofO (tg x.1)) fun as => .nx (putB x.2 as)
theorem ss_unp {p : Bool} {is : List Nat} {tgt e : Expr} {fe : ES} {tg : D → Option (List (Nat × D))} (he : EV X E p false e fe) (hg : GV X is tgt tg) (hs : swapsWithSole [tgt] e pos.line X.env = pure false := by rfl) (hw : swappedStores [tgt] e X.env = pure none := by rfl)
    (h1 : (assignEach [tgt] X.env).map (·.2) = [assign tgt X.env] := by rfl) : SS X E (.Assign [tgt] e pos) (sUnp fe tg) := by
  obtain ⟨t, pt, rt⟩ := he.ex
  obtain ⟨u, pu, ru⟩ := hg.ex
  refine ⟨_, ps_asg pt pu hs hw h1, fun b O W De σ H ρ s h => ?_⟩
  refine rt O W σ H ρ _ s.st ((FlOk.rs s h).mono (fun x hx v H1 po r => ?_) fun _ _ z => z)
  cases et : tg x.1 with
  | none => rw [et] at hx; exact hx.elim
  | some as =>
    rw [et] at hx
    exact ru O H1 σ v x.1 as _ r.strict et fun vs pu _ => hx O W _ H1 (SI.puts pu (s.post po)) (s.tr po)
end
end RT
namespace RT
open PySem PySem.Spec PyProof.Rows L2
abbrev FSO := List D → Rs (List D)
def spFO (K : PySem.W.Frag) (F : FSO) : Sp := fun vs H Q E => ∃ (O : Addr → Prop) (ds : List D), Reps K O H vs ds ∧ Al O H ∧
  Wr (F ds) (fun r => ∀ q us H', Same H H' → H q = none → H' q = some (.lst us) → Reps K (fun a => O a ∨ a = q) H' us r → Q (.ref q) H') (fun _ _ => False)
def fnSemO (n m : Nat) (g : List B → Fl) : FSO := fun ds => if ds.length = n then match g (ds.map .va ++ List.replicate m .un) with
  | .ro r _ => .ok r
  | _ => .bad
  else .bad
theorem fnSemO_no {n m : Nat} {g : List B → Fl} {ds : List D} : ∀ c x, fnSemO n m g ds ≠ .exc c x := fun c x h => by
  unfold fnSemO at h
  split at h
  · split at h <;> cases h
  · cases h
theorem FnG.of_bodyO {P : Program} {w : World} {K : PySem.W.Frag} {mg : Str → Option Value} {base : Heap} {x qual : Str} {params : Arguments} {body : List Stmt} {scope : Scope} {f : Addr} {fd : FuncData} {N ps : List Str} {k n m : Nat} {g : List B → Fl}
    (F : FunD K x qual params body scope [] [] f fd) (S : FnScope N ps scope) (hn : ps.length = n) (hN : N.length = n + m)
    (hbody : ∀ (cdv : Value) (A : Around) (outer : List Env) (s : Shared) (H : Hp) (E : XK), Room k (A.deeper (envOfC qual scope s.heap.objs.size f cdv)) → (A.deeper (envOfC qual scope s.heap.objs.size f cdv)).guards = some [] →
      SSs (cxOf CX0 P w K mg base N qual scope f cdv A outer s H E).nox E0 body g) : FnG P w K mg base CX0 (k + 1) f fd ps (spFO K (fnSemO n m g)) := by
  obtain ⟨oc, od, dV, kV, doc, pm, an, cdv, ct, osl, rfl, lk, hcd, _, _⟩ := F.ex
  refine fn_ofG lk hcd S (fun vs H Q E h => ?_) fun A outer s H vs Q E hr hgd h => ?_
  · obtain ⟨O, ds, rr, al, h⟩ := h
    obtain ⟨r, er, _⟩ := h.at fnSemO_no
    unfold fnSemO at er
    split at er
    · rename_i hl
      rw [hn, ← hl, rr.length]
    · cases er
  · obtain ⟨O, ds, rr, al, h⟩ := h
    obtain ⟨r, er, hq⟩ := h.at fnSemO_no
    obtain ⟨t, pt, rt⟩ := (hbody cdv A outer s H E hr hgd).ex
    refine ⟨t, pt.nox, ?_⟩
    unfold fnSemO at er
    split at er
    · rename_i hl
      have hv : vs.length = n := by rw [rr.length]; exact hl
      have s0 : SI K ⟨vs, O, fun _ => False, H⟩ O (fun _ => False) (L2.start N vs) H (ds.map .va ++ List.replicate m .un) := SI.start (strArgs rr al) (allVa ds) (by rw [hv, hN])
      refine rt ⟨vs, O, fun _ => False, H⟩ O (fun _ => False) _ _ H _ s0 ?_
      cases eg : g (ds.map .va ++ List.replicate m .un) with
      | ro r' ρ =>
        rw [eg] at er
        obtain rfl : r' = r := Rs.ok.inj er
        exact fun q us O' W' σ' H' s' bn hq' rr' => hq q us H' (fun b o e => s'.ext b o (fun z => z) e) bn hq' (rr'.less fun a z => z.elim (fun z => .inl (s'.up a z)) .inr)
      | _ => rw [eg] at er; cases er
    · cases er
structure CalO (P : Program) (w : World) (K : PySem.W.Frag) (mg : Str → Option Value) (base : Heap) (k : Nat) (x : Str) (n : Nat) (F : FSO) : Prop where
  ex : ∃ (f : Addr) (fd : FuncData) (ps : List Str), mg x = some (.ref f) ∧ PySem.W.keepIn K (.ref f) = true ∧ ps.length = n ∧ Binds K fd ps [] ∧ FnG P w K mg base CX0 k f fd ps (spFO K F)
theorem CalO.mono {P : Program} {w : World} {K : PySem.W.Frag} {mg : Str → Option Value} {base : Heap} {j k : Nat} {x : Str} {n : Nat} {F : FSO} (C : CalO P w K mg base j x n F) (h : j ≤ k) : CalO P w K mg base k x n F := by
  obtain ⟨f, fd, ps, h1, h2, h3, h4, h5⟩ := C.ex
  exact ⟨f, fd, ps, h1, h2, h3, h4, h5.mono h⟩
def noXO : Rs (List D) → Rs (List D) := noX
def oCall (F : FSO) (ar : AS) : AS := fun ρ => (ar ρ).bind fun x => (noX (F x.1)).bind fun y => .ok (y, x.2)
section
variable {X : Cx} {E : XK} {p w : Bool} {k n : Nat} {x : Str} {F : FSO} {e : Expr} {es : List Expr} {ar : AS} {pp pos : Pos}
theorem StR.grow2 {K : PySem.W.Frag} {O W : Addr → Prop} {σ : St} {H H' : Hp} {ρ : List B} {a : Addr} {o : HO} (s : StR K O W σ H ρ) (sm : Same H H') (n : H a = none) (ho : H' a = some o) : StR K (fun b => O b ∨ b = a) (fun b => W b ∨ b = a) σ H' ρ := by
  refine ⟨s.len, fun i b e => ?_, s.apart, fun b z => z.elim (fun z => .inl (s.sub b z)) .inr, fun b z => ?_⟩
  · have q := s.slot i b e
    cases b with
    | un => exact trivial
    | va d =>
      obtain ⟨v, h1, h2⟩ := q
      exact ⟨v, h1, (h2.shun fun b z => z.elim .inl fun e => .inr (by rw [e]; exact n)).same sm⟩
    | ow k ds =>
      obtain ⟨p, vs, h1, h2, h3, h4⟩ := q
      exact ⟨p, vs, h1, .inl h2, sm p _ h3, (h4.shun fun b z => z.elim .inl fun e => .inr (by rw [e]; exact n)).same sm⟩
  · rcases z with z | z
    · cases q : H b with
      | none => exact absurd q (s.al b z)
      | some u => rw [sm b u q]; exact fun z => nomatch z
    · rw [z, ho]; exact fun z => nomatch z
theorem eo_call (C : CalO X.prog X.w X.K X.mg X.base k x n F) (hr : Room k X.A) (hgd : X.A.guards = some []) (ha : AV X E p false (e :: es) ar) (hn : (e :: es).length = n := by rfl) (hg : Gl X x := by rfl) (hdb : (x == ("__debug__" : Str)) = false := by decide)
    (he : starEach (e :: es) X.env = (false, eval e X.env) :: starEach es X.env := by rfl) (hpl : (backTo pos (starEach es X.env)).any (·.1) = false := by rfl) : EO X E p (.Call (.Name x pp) (e :: es) [] pos) (oCall F ar) := by
  obtain ⟨f, fd, ps, h1, h2, h3, h4, h5⟩ := C.ex
  obtain ⟨t, pt, rt⟩ := ha.ex
  refine ⟨_, pe_callG h5 hr hgd hg h1 h2 h4 .nil pass0 pt hdb he hpl, fun O W σ H ρ Q s h => ?_⟩
  refine rt O W σ H ρ _ s (h.bind.mono (fun x hx vs H1 po r => ?_) fun _ _ z => z)
  have rr := reps_of r
  rw [List.append_nil]
  refine ⟨O, x.1, rr, po.st.al, (Wr.noX (Wr.bind hx)).mono (fun y hy q us H' sm n hq r2 => ?_) fun _ _ z => z⟩
  exact hy q us H' (po.free' n) (po.more sm) (po.st.grow2 sm n hq) hq r2
def eCall0 (F : FS) : ES := fun ρ => (noX (F [])).bind fun y => .ok (y.1, ρ)
theorem ev_call0 {F : FS} (C : Cal X.prog X.w X.K X.mg X.base k x 0 F) (hr : Room k X.A) (hgd : X.A.guards = some []) (hg : Gl X x := by rfl) (hdb : (x == ("__debug__" : Str)) = false := by decide) : EV X E true w (.Call (.Name x pp) [] [] pos) (eCall0 F) := by
  obtain ⟨f, fd, ps, h1, h2, h3, h4, h5⟩ := C.ex
  refine ⟨_, pe_callG0 h5 hr hgd hg h1 h2 h4 .nil pass0 hdb, fun O W σ H ρ Q s h => ?_⟩
  show spF X.K X.mg F ([] ++ []) H Q E0
  refine ⟨O, fun _ => False, [], (strArgs (ds := []) .nil s.al), rfl, fun _ z => z.elim, (Wr.noX (Wr.bind h)).mono (fun y hy v H' s2 e2 r2 _ => ?_) fun _ _ z => z⟩
  have sm : Same H H' := fun b o h => e2 b o (fun z => z) h
  exact hy v H' (Post.of_same s sm) (.inl r2)
end
end RT
namespace RT
open PySem PySem.Spec PyProof.Rows L2
theorem law_callG {P : Program} {w : World} {K : PySem.W.Frag} {mg mb : Str → Option Value} {k : Nat} {fa a : Addr} {fd : FuncData} {x : Str} {F : FS} {s₁ : Shared} {vs : List Value} {ns : List Int}
    (KX : K.In s₁.heap) (hns : s₁.heap.Ns mainGlobals mg) (hb : s₁.heap.Ns builtinsNs mb) (hbb : ∀ x : Str, x ≠ "__name__" → mb x = bootBuiltins x) (hlim : s₁.heap.NoLimit) (hg : s₁.gens = #[])
    (ha : s₁.heap.get? a = some { cls := .type "list", data := .seq vs.toArray }) (hi : IntsAre vs ns) (hl : ns.length ≤ sizeLine) (hr : Room k callerA)
    (hF : ∀ base : Heap, K.In base → base.Ns mainGlobals mg → FnG P w K mg base CX0 k fa fd [x] (spF K mg F)) (hbind : ∀ (s : Shared) (u : Value), BindsTo s fd ⟨[u], []⟩ [(x, u)])
    (hlaw : ∃ r, F [.va (.lst (ns.map D.int))] = .ok (.bl true, r)) :
    codeAny (model P w) callerA (.call (.ref fa) ⟨[.ref a], []⟩) (fun r s' => r = .ok (.ret (.bool true)) ∧ OldK s₁.heap s'.heap ∧ s'.os = s₁.os ∧ AllBare s'.gens) s₁ := by
  have rv := vals_ints hi
  have lenV := hi.length
  have core : ∀ H : Hp, Only H → RdL K H a (ns.map V.int) → HOk P w H s₁.heap → (∀ b, H b ≠ none → b = a) → (H a ≠ none → K.lookup a = none) →
      codeAny (model P w) callerA (.call (.ref fa) ⟨[.ref a], []⟩) (fun r s' => r = .ok (.ret (.bool true)) ∧ OldK s₁.heap s'.heap ∧ s'.os = s₁.os ∧ AllBare s'.gens) s₁ := by
    intro H hO hS hok hA hK
    have at_ : ∀ {b : Addr} {o : Obj} {u : HO}, s₁.heap.get? b = some o → H b = some u → o = { cls := .type "list", data := .seq vs.toArray } := fun {b o u} e q => by
      have e' : b = a := hA b (by rw [q]; simp)
      subst e'
      rw [ha] at e
      exact (Option.some.inj e).symm
    have base_of : ∀ {b : Addr} {o : Obj}, s₁.heap.get? b = some o → o.data ≠ .seq vs.toArray → (hidT s₁.heap H).get? b = some o := fun {b o} e d => hidT_get e (by
      cases q : H b with
      | none => rfl
      | some u => exact absurd (by rw [at_ e q]) d)
    have nsK : ∀ {b : Addr} {m : Str → Option Value}, s₁.heap.Ns b m → (hidT s₁.heap H).Ns b m := fun {b m} ⟨o, es, ep, e, d, r⟩ => ⟨o, es, ep, base_of e (fun z => by rw [d] at z; cases z), d, r⟩
    have hKb : K.In (hidT s₁.heap H) := fun b o e => hidT_get (KX b o e) (by
      cases q : H b with
      | none => rfl
      | some u =>
        have e' : b = a := hA b (by rw [q]; simp)
        subst e'
        rw [hK (by rw [q]; simp)] at e; cases e)
    have hM : Mod K mg (hidT s₁.heap H) := ⟨hKb, nsK hns, ⟨mb, nsK hb, hbb⟩, let ⟨mc, h1, h2⟩ := hlim; ⟨mc, nsK h1, h2⟩⟩
    have e0 : Env0 P w K mg (hidT s₁.heap H) callerA [] s₁ H := ⟨rfl, hM, fun b o e => of_hidT e, Nat.le_of_eq (hidT_size _ _), trivial, fun b hb => absurd (show b ∈ ([] : List Addr) from hb) (by simp), hok, .of_eq hg⟩
    have sp : spF K mg F [.ref a] H (fun v _ => v = .bl true) fun _ _ _ => False := by
      obtain ⟨r, er⟩ := hlaw
      have al : Al (fun _ => False) H := fun _ z => z.elim
      have rep : Reps K (fun _ => False) H [.ref a] [.lst (ns.map D.int)] := .cons (.lst (by
        rcases hS with h | h
        · exact .inl ⟨h, fun z => z⟩
        · exact .inr h) (reps_ints ns)) .nil
      refine ⟨fun _ => False, fun _ => False, [.va (.lst (ns.map D.int))], strArgs rep al, rfl, fun _ z => z.elim, ?_⟩
      rw [er]
      exact fun v H' _ _ rv _ => rv.bl_inv
    refine codeAny_mono ((hF _ hKb (nsK hns)).run callerA [] s₁ H ⟨[.ref a], []⟩ [.ref a] [.ref a] _ _ hr rfl e0 (hbind s₁ (.ref a)) (.cons rfl .nil) sp) fun r s' h => ?_
    cases r with
    | error e => exact False.elim h
    | ok fl =>
      cases fl with
      | next => exact False.elim h
      | brk => exact False.elim h
      | cont => exact False.elim h
      | ret u =>
        obtain ⟨v, H', os, bare, un, hok', r', q⟩ := h
        have q' : v = .bl true := q
        subst q'
        obtain rfl : u = Value.bool true := r'
        refine ⟨rfl, OldK.of_keep fun b o e => ?_, os, bare⟩
        cases q : H b with
        | none => exact un.keep b o e q (by intro z; exact absurd (show b ∈ ([] : List Addr) from z) (by simp)) (by simp)
        | some u =>
          rcases hO b with z | ⟨ob, xs, z⟩
          · rw [q] at z; cases z
          · have z2 := un.frzs b ob _ z
            obtain ⟨e1, _⟩ := hok b _ z
            obtain ⟨e2, _⟩ := hok' b _ z2
            rw [e] at e1; cases e1
            exact e2
  cases hk : K.lookup a with
  | some o =>
    have e := KX a o hk
    rw [ha] at e
    cases e
    exact core (fun _ => none) (fun _ => .inl rfl) (.inr ⟨_, vs.toArray, _, hk, rfl, rfl, rfl, by rw [List.size_toArray, lenV]; exact hl, by simpa using rv, rfl⟩) (fun b u z => nomatch z) (fun b z => absurd rfl z) fun z => absurd rfl z
  | none =>
    refine core (fun b => if b = a then some (.frz { cls := .type "list", data := .seq vs.toArray } (.lst (ns.map V.int))) else none) (fun b => ?_) (.inl (.inr ⟨{ cls := .type "list", data := .seq vs.toArray }, if_pos rfl⟩)) (fun b u z => ?_) (fun b z => ?_) fun _ => hk
    · by_cases hb : b = a
      · exact .inr ⟨_, _, if_pos hb⟩
      · exact .inl (if_neg hb)
    · by_cases hb : b = a
      · have z' := (if_pos hb).symm.trans z
        cases z'
        subst hb
        exact ⟨ha, by rw [List.length_map]; exact hl, vs, _, rv, ha⟩
      · have z' := (if_neg hb).symm.trans z
        cases z'
    · by_cases hb : b = a
      · exact hb
      · exact absurd (if_neg hb) z
theorem walk_ofG {l : PySem.W.OpenLaw} {n k : Nat} {q : Program} {loose : List Str} {XP : (Str → Option Value) → Heap → Prop} {YP : World → Heap → Prop} {d : DefRec} {x : Str} {F : FS}
    (hn : l.most = some n) (hn2 : n ≤ sizeLine) (hdf : d.params.defaults = []) (hr : Room k callerA)
    (hF : ∀ (w : World) (mg : Str → Option Value) (fa : Addr) (h : Heap), YP w h → h.Ns mainGlobals mg → mg d.name = some (.ref fa) →
      ∃ (K : PySem.W.Frag) (fd : FuncData), K.In h ∧ (∀ (s : Shared) (u : Value), BindsTo s fd ⟨[u], []⟩ [(x, u)]) ∧
        ∀ base : Heap, K.In base → base.Ns mainGlobals mg → FnG l.prog w K mg base CX0 k fa fd [x] (spF K mg F))
    (hlaw : ∀ ns : List Int, ns.length ≤ n → ∃ r, F [.va (.lst (ns.map D.int))] = .ok (.bl true, r)) :
    PySem.W.WalkO q loose XP YP l.row.toRowW d [] (fun f vs => PySem.call f vs) := by
  refine Att.attach_call hn hdf fun w s₀ s₁ mg mb fa o pm cd doc a vs ns G Y ho hd hcd hmg hobj hints hlen hg => ?_
  obtain ⟨K, fd, KX, hb, hF⟩ := hF w mg fa _ Y G.T.g hmg
  exact law_callG KX G.T.g G.T.b G.T.builtins G.T.nolimit hg hobj hints (Nat.le_trans hlen hn2) hr hF hb (hlaw ns hlen)
end RT
namespace PySem
open Sem (wp)
section
variable {prog : Program} {w : World} {A : Around} {E : Value → Shared → Prop} {s : Shared} {z TI TO i1 i2 : Addr} {fp1 fp2 : List Addr} {n1 n2 i : Nat} {P1 P2 : Nat → Value → Prop} {St1 St2 : Nat → Heap → Prop} {a1 a2 : Value}
theorem z2h_next_item {Q : Value → Shared → Prop} {T : Addr} {f : Bool} {oT : Obj} (S : ZipSep2 z TI TO i1 i2 fp1 fp2) (D1 : Draws prog w A i1 fp1 n1 P1 St1) (D2 : Draws prog w A i2 fp2 n2 P2 St2)
    (hz : IsZipHeld s.heap z TI TO T f) (hT : s.heap.get? T = some oT) (hTI : IsTupOf2 s.heap TI (.ref i1) (.ref i2)) (st1 : St1 i s.heap) (st2 : St2 i s.heap) (hlt1 : i < n1) (hlt2 : i < n2)
    (hQ : ∀ x1 x2 h' tk, P1 i x1 → P2 i x2 → IsZipHeld h' z TI TO T true → St1 (i + 1) h' → St2 (i + 1) h' → IsTupOf2 h' s.heap.objs.size x1 x2 → h'.objs.size = s.heap.objs.size + 1 →
      (∀ c o, c ≠ z → c ≠ i1 → c ≠ i2 → s.heap.get? c = some o → h'.get? c = some o) → Q (.ref s.heap.objs.size) { s with heap := h', toks := tk }) :
    wpAny (model prog w) A (Builtin.«zip.__next__» ⟨[.ref z], []⟩) (fun fin s' => ∃ v, fin = .done (.ret v) ∧ Q v s') E s := by
  obtain ⟨hp, g, d, tk0, os⟩ := s
  show wpAny _ _ (field (.ref z) 2 >>= _) _ _ _
  refine wpAny_bind (wpAny_field hz rfl (x := .bool false) rfl ?_)
  show wpAny _ _ (field (.ref z) 3 >>= _) _ _ _
  refine wpAny_bind (wpAny_field hz rfl (x := .ref TI) rfl ?_)
  refine wpAny_bind (wpAny_seqItems hTI rfl ?_)
  show wpAny _ _ (Builtin.SmallTypes.ownedTupleIsFree (.ref z) >>= _) _ _ _
  refine wpAny_bind (wpAny_tupleHeld_zip hz hT fun h₁ hz₁ hs₁ => ?_)
  simp only [Bool.false_eq_true, if_false]
  refine wpAny_bind ?_
  rw [← Array.forIn_toList]
  simp only [List.forIn_cons, List.forIn_nil]
  refine wpAny_bind (wpAny_bind (wpAny_holding ?_))
  show wpAny _ _ (Builtin.SmallTypes.nextOf (.ref i1) >>= _) _ _ ⟨h₁, g, d, tk0, os⟩
  replace hs₁ : Heap.SameBut z hp h₁ := hs₁
  refine wpAny_bind (D1.item i _ _ _ hlt1 (D1.over st1 hs₁ S.zf1) fun x1 p1 tk1 hx1 sn1 hp1 => wpAny_pure ?_)
  replace hp1 : Heap.SameBut i1 h₁ p1 := hp1
  refine wpAny_pure ?_
  refine wpAny_bind (wpAny_bind (wpAny_holding ?_))
  show wpAny _ _ (Builtin.SmallTypes.nextOf (.ref i2) >>= _) _ _ ⟨p1, g, d, tk1, os⟩
  refine wpAny_bind (D2.item i _ _ _ hlt2 (D2.over (D2.over st2 hs₁ S.zf2) hp1 S.sep1_2) fun x2 p2 tk2 hx2 sn2 hp2 => wpAny_pure ?_)
  replace hp2 : Heap.SameBut i2 p1 p2 := hp2
  refine wpAny_pure (wpAny_pure ?_)
  show wpAny _ _ (newTuple [x1, x2] >>= _) _ _ ⟨p2, g, d, tk2, os⟩
  refine wpAny_bind (wpAny_newTuple ?_)
  have hsz : p2.objs.size = hp.objs.size := by rw [hp2.1, hp1.1, hs₁.1]
  have hz₃ : IsZipHeld p2 z TI TO T true := hp2.extBut _ _ S.zi2 (hp1.extBut _ _ S.zi1 hz₁)
  have hk : ∀ c o, c ≠ z → c ≠ i1 → c ≠ i2 → hp.get? c = some o → p2.get? c = some o := fun c o c1 c2 c3 e => hp2.extBut _ _ c3 (hp1.extBut _ _ c2 (hs₁.extBut _ _ c1 e))
  have sn1' : St1 (i + 1) p2 := D1.over sn1 hp2 S.sep2_1
  refine wpAny_pure ⟨_, rfl, ?_⟩
  show Q (.ref p2.objs.size) _
  have hpu : IsTupOf2 (p2.push { cls := .type "tuple", data := .seq #[x1, x2] }) p2.objs.size x1 x2 := Heap.get?_push_size _ rfl
  have hz4 : (p2.push { cls := .type "tuple", data := .seq #[x1, x2] }).objs.size = p2.objs.size + 1 := Heap.size_push ..
  have up : ∀ c o, p2.get? c = some o → (p2.push { cls := .type "tuple", data := .seq #[x1, x2] }).get? c = some o := fun c o e => Heap.get?_push_of_some _ e
  rw [hsz] at hpu hz4 ⊢
  exact hQ x1 x2 _ tk2 hx1 hx2 (up _ _ hz₃) (D1.frame _ _ _ sn1' fun b hb o e => up b o e) (D2.frame _ _ _ sn2 fun b hb o e => up b o e) hpu hz4 fun c o c1 c2 c3 e => up c o (hk c o c1 c2 c3 e)
theorem z2h_next_end {Q : Fin → Shared → Prop} {T : Addr} {f : Bool} {oT : Obj} (S : ZipSep2 z TI TO i1 i2 fp1 fp2) (D1 : Draws prog w A i1 fp1 n1 P1 St1) (D2 : Draws prog w A i2 fp2 n2 P2 St2)
    (hz : IsZipHeld s.heap z TI TO T f) (hT : s.heap.get? T = some oT) (hTI : IsTupOf2 s.heap TI (.ref i1) (.ref i2)) (st1 : St1 i s.heap) (st2 : St2 i s.heap) (hle1 : i ≤ n1) (hle2 : i ≤ n2) (hend : i = n1 ∨ i = n2)
    (hE : ∀ h' tk e, (∀ c o, c ≠ z → c ≠ i1 → c ≠ i2 → s.heap.get? c = some o → h'.get? c = some o) → (∃ o, h'.get? e = some o ∧ o.cls = .type "StopIteration") → E (.ref e) { s with heap := h', toks := tk }) :
    wpAny (model prog w) A (Builtin.«zip.__next__» ⟨[.ref z], []⟩) Q E s := by
  obtain ⟨hp, g, d, tk0, os⟩ := s
  show wpAny _ _ (field (.ref z) 2 >>= _) _ _ _
  refine wpAny_bind (wpAny_field hz rfl (x := .bool false) rfl ?_)
  show wpAny _ _ (field (.ref z) 3 >>= _) _ _ _
  refine wpAny_bind (wpAny_field hz rfl (x := .ref TI) rfl ?_)
  refine wpAny_bind (wpAny_seqItems hTI rfl ?_)
  show wpAny _ _ (Builtin.SmallTypes.ownedTupleIsFree (.ref z) >>= _) _ _ _
  refine wpAny_bind (wpAny_tupleHeld_zip hz hT fun h₁ hz₁ hs₁ => ?_)
  simp only [Bool.false_eq_true, if_false]
  refine wpAny_bind ?_
  rw [← Array.forIn_toList]
  simp only [List.forIn_cons, List.forIn_nil]
  refine wpAny_bind (wpAny_bind (wpAny_holding ?_))
  show wpAny _ _ (Builtin.SmallTypes.nextOf (.ref i1) >>= _) _ _ ⟨h₁, g, d, tk0, os⟩
  replace hs₁ : Heap.SameBut z hp h₁ := hs₁
  by_cases hlt1 : i < n1
  · refine wpAny_bind (D1.item i _ _ _ hlt1 (D1.over st1 hs₁ S.zf1) fun x1 p1 tk1 hx1 sn1 hp1 => wpAny_pure ?_)
    replace hp1 : Heap.SameBut i1 h₁ p1 := hp1
    refine wpAny_pure ?_
    have hi2 : i = n2 := by omega
    refine wpAny_bind (wpAny_bind (wpAny_holding ?_))
    show wpAny _ _ (Builtin.SmallTypes.nextOf (.ref i2) >>= _) _ _ ⟨p1, g, d, tk1, os⟩
    refine wpAny_bind (D2.done ⟨p1, g, d, tk1, os⟩ _ _ (by rw [← hi2]; exact (D2.over (D2.over st2 hs₁ S.zf2) hp1 S.sep1_2)) fun q e hq he => ?_)
    replace hq : Heap.ExtBut i2 p1 q := hq
    exact hE q tk1 e (fun c o c1 c2 c3 x => hq _ _ c3 (hp1.extBut _ _ c2 (hs₁.extBut _ _ c1 x))) he
  · have hi1 : i = n1 := by omega
    refine wpAny_bind (D1.done ⟨h₁, g, d, tk0, os⟩ _ _ (by rw [← hi1]; exact (D1.over st1 hs₁ S.zf1)) fun q e hq he => ?_)
    replace hq : Heap.ExtBut i1 h₁ q := hq
    exact hE q tk0 e (fun c o c1 c2 c3 x => hq _ _ c2 (hs₁.extBut _ _ c1 x)) he
theorem z2h_item {Q : Option Value → Shared → Prop} {T : Addr} {f : Bool} {oT : Obj} (S : ZipSep2 z TI TO i1 i2 fp1 fp2) (D1 : Draws prog w A.in1 i1 fp1 n1 P1 St1) (D2 : Draws prog w A.in1 i2 fp2 n2 P2 St2)
    (hz : IsZipHeld s.heap z TI TO T f) (hT : s.heap.get? T = some oT) (hTI : IsTupOf2 s.heap TI (.ref i1) (.ref i2)) (st1 : St1 i s.heap) (st2 : St2 i s.heap) (hlt1 : i < n1) (hlt2 : i < n2)
    (hQ : ∀ x1 x2 h' tk, P1 i x1 → P2 i x2 → IsZipHeld h' z TI TO T true → St1 (i + 1) h' → St2 (i + 1) h' → IsTupOf2 h' s.heap.objs.size x1 x2 → h'.objs.size = s.heap.objs.size + 1 →
      (∀ c o, c ≠ z → c ≠ i1 → c ≠ i2 → s.heap.get? c = some o → h'.get? c = some o) → Q (some (.ref s.heap.objs.size)) { s with heap := h', toks := tk }) :
    wpAny (model prog w) A (pyNext (.ref z)) Q E s := by
  have hTy : s.TypeIs (.ref z) "zip" := ⟨_, hz, rfl⟩
  unfold pyNext
  exact wpAny_bind (wpAny_attempt (wpAny_callSpecial?_slot (name := Str.ofString "__next__") hTy F.slot_zip_next
    (wpAny_call_entry F.slot_zip_next hTy F.entry_zip_next
      (z2h_next_item S D1 D2 hz hT hTI st1 st2 hlt1 hlt2 fun x1 x2 h' tk y1 y2 b1 d1 d2 b5 b6 b7 => wpAny_pure (hQ x1 x2 h' tk y1 y2 b1 d1 d2 b5 b6 b7)) (F.args_zip_next_1 _))))
theorem z2h_end {Q : Option Value → Shared → Prop} {T : Addr} {f : Bool} {oT : Obj} (S : ZipSep2 z TI TO i1 i2 fp1 fp2) (D1 : Draws prog w A.in1 i1 fp1 n1 P1 St1) (D2 : Draws prog w A.in1 i2 fp2 n2 P2 St2)
    (hz : IsZipHeld s.heap z TI TO T f) (hT : s.heap.get? T = some oT) (hTI : IsTupOf2 s.heap TI (.ref i1) (.ref i2)) (st1 : St1 i s.heap) (st2 : St2 i s.heap) (hle1 : i ≤ n1) (hle2 : i ≤ n2) (hend : i = n1 ∨ i = n2)
    (hQ : ∀ h' tk, (∀ c o, c ≠ z → c ≠ i1 → c ≠ i2 → s.heap.get? c = some o → h'.get? c = some o) → Q none { s with heap := h', toks := tk }) : wpAny (model prog w) A (pyNext (.ref z)) Q E s := by
  have hTy : s.TypeIs (.ref z) "zip" := ⟨_, hz, rfl⟩
  unfold pyNext
  refine wpAny_bind (wpAny_attempt (wpAny_callSpecial?_slot (name := Str.ofString "__next__") hTy F.slot_zip_next
    (wpAny_call_entry F.slot_zip_next hTy F.entry_zip_next (z2h_next_end S D1 D2 hz hT hTI st1 st2 hle1 hle2 hend fun h' tk e hk he => ?_) (F.args_zip_next_1 _))))
  obtain ⟨o, ho, hc⟩ := he
  refine wpAny_bind (wpAny_isInstance (T := "StopIteration") (b := true) ⟨o, ho, hc⟩ isSubtype_stop ?_)
  exact wpAny_pure (hQ _ _ hk)
end
theorem zip_no_len' : typeLookup (.type "zip") "__len__" = pure none := am_miss_of_fast (by decide +kernel)
theorem zip_no_hint' : typeLookup (.type "zip") "__length_hint__" = pure none := am_miss_of_fast (by decide +kernel)
end PySem
namespace RT
open PySem PySem.Spec PyProof.Rows L2
def ZSt (b1 b2 : Bool) (z TI TO i1 i2 a c : Addr) (h : Heap) (i : Nat) : Prop :=
  ((∃ x y, IsZip h z TI TO .none ∧ IsTupOf2 h TO x y) ∨ ∃ T f oT, PySem.IsZipHeld h z TI TO T f ∧ h.get? T = some oT) ∧ IsTupOf2 h TI (.ref i1) (.ref i2) ∧ ItB h b1 i1 a i ∧ ItB h b2 i2 c i ∧ TO < h.objs.size
theorem ZSt.keep {b1 b2 : Bool} {z TI TO i1 i2 a c S : Addr} {h h' : Heap} {i : Nat} (st : ZSt b1 b2 z TI TO i1 i2 a c h i) (hS : S ∉ [z, TI, TO, i1, i2]) (k : ∀ b o, b ≠ S → h.get? b = some o → h'.get? b = some o) (kS : ∃ o, h'.get? S = some o) (kz : h.objs.size ≤ h'.objs.size) : ZSt b1 b2 z TI TO i1 i2 a c h' i := by
  have ne : ∀ b ∈ [z, TI, TO, i1, i2], b ≠ S := fun b hb e => hS (e ▸ hb)
  obtain ⟨h0, h1, h2, h3, h4⟩ := st
  refine ⟨?_, k _ _ (ne _ (by simp)) h1, itB_at h2 fun o q => k _ _ (ne _ (by simp)) q, itB_at h3 fun o q => k _ _ (ne _ (by simp)) q, Nat.lt_of_lt_of_le h4 kz⟩
  rcases h0 with ⟨x, y, g1, g2⟩ | ⟨T, f, oT, g1, g2⟩
  · exact .inl ⟨x, y, k _ _ (ne _ (by simp)) g1, k _ _ (ne _ (by simp)) g2⟩
  · by_cases e : T = S
    · obtain ⟨o, ho⟩ := kS
      exact .inr ⟨T, f, o, k _ _ (ne _ (by simp)) g1, by rw [e]; exact ho⟩
    · exact .inr ⟨T, f, oT, k _ _ (ne _ (by simp)) g1, k _ _ e g2⟩
section
variable {X : Cx} {A : Around} {b1 b2 : Bool} {a c z TI TO i1 i2 S : Addr} {s : Shared} {i : Nat} {xs ys : Array Value}
theorem zl_item {prog : Program} {w : World} {Q : Option Value → Shared → Prop} {E : Value → Shared → Prop} (hh : A.handled = none) (D : ZipApart z TI TO i1 i2 a c) (st : ZSt b1 b2 z TI TO i1 i2 a c s.heap i) (p1 : ArB s.heap b1 a xs) (p2 : ArB s.heap b2 c ys) (h1 : i < xs.size) (h2 : i < ys.size)
    (hQ : ∀ x1 x2 h' tk, xs[i]? = some x1 → ys[i]? = some x2 → ZSt b1 b2 z TI TO i1 i2 a c h' (i + 1) → IsTupOf2 h' s.heap.objs.size x1 x2 → (∀ b o, b ∉ [z, TI, TO, i1, i2] → s.heap.get? b = some o → h'.get? b = some o) → Q (some (.ref s.heap.objs.size)) { s with heap := h', toks := tk }) :
    wpAny (model prog w) A (pyNext (.ref z)) Q E s := by
  have S2 := sep_of D D.l1i2 D.l2i1
  have D1 := drawsB (prog := prog) (w := w) (A := A.in1) hh b1 i1 a D.l1i1 xs
  have D2 := drawsB (prog := prog) (w := w) (A := A.in1) hh b2 i2 c D.l2i2 ys
  obtain ⟨h0, hTI, j1, j2, j3⟩ := st
  have four : ∀ {b : Addr}, b ∉ [z, TI, TO, i1, i2] → b ≠ z ∧ b ≠ TO ∧ b ≠ i1 ∧ b ≠ i2 := fun {b} hb => by
    simp only [List.mem_cons, List.not_mem_nil, or_false, not_or] at hb
    exact ⟨hb.1, hb.2.2.1, hb.2.2.2.1, hb.2.2.2.2⟩
  rcases h0 with ⟨x0, y0, hz, hTO⟩ | ⟨T, f, oT, hz, hT⟩
  · refine wpAny_pyNext_zipD2_item S2 D1 D2 hz hTI hTO ⟨j1, p1⟩ ⟨j2, p2⟩ h1 h2 fun x1 x2 h' tk e1 e2 z' TO' st1' st2' hT' hsz hk => ?_
    exact hQ x1 x2 h' tk e1 e2 ⟨.inr ⟨s.heap.objs.size, false, _, z', hT'⟩, hk _ _ D.TIz D.TITO D.TIi1 D.TIi2 hTI, st1'.1, st2'.1, by rw [hsz]; exact Nat.lt_succ_of_lt j3⟩ hT' fun b o hb q => by
      obtain ⟨n1, n2, n3, n4⟩ := four hb
      exact hk b o n1 n2 n3 n4 q
  · refine PySem.z2h_item S2 D1 D2 hz hT hTI ⟨j1, p1⟩ ⟨j2, p2⟩ h1 h2 fun x1 x2 h' tk e1 e2 z' st1' st2' hT' hsz hk => ?_
    refine hQ x1 x2 h' tk e1 e2 ⟨?_, hk _ _ D.TIz D.TIi1 D.TIi2 hTI, st1'.1, st2'.1, by rw [hsz]; exact Nat.lt_succ_of_lt j3⟩ hT' fun b o hb q => by
      obtain ⟨n1, n2, n3, n4⟩ := four hb
      exact hk b o n1 n3 n4 q
    have ht : ∃ o, h'.get? T = some o := by
      by_cases q1 : T = z
      · exact ⟨_, by rw [q1]; exact z'⟩
      · by_cases q2 : T = i1
        · obtain ⟨o, ho, _⟩ := itB_obj st1'.1
          exact ⟨o, by rw [q2]; exact ho⟩
        · by_cases q3 : T = i2
          · obtain ⟨o, ho, _⟩ := itB_obj st2'.1
            exact ⟨o, by rw [q3]; exact ho⟩
          · exact ⟨oT, hk _ _ q1 q2 q3 hT⟩
    obtain ⟨o, ho⟩ := ht
    exact .inr ⟨T, true, o, z', ho⟩
theorem zl_end {prog : Program} {w : World} {Q : Option Value → Shared → Prop} {E : Value → Shared → Prop} (hh : A.handled = none) (D : ZipApart z TI TO i1 i2 a c) (st : ZSt b1 b2 z TI TO i1 i2 a c s.heap i) (p1 : ArB s.heap b1 a xs) (p2 : ArB s.heap b2 c ys) (h1 : i ≤ xs.size) (h2 : i ≤ ys.size) (he : i = xs.size ∨ i = ys.size)
    (hQ : ∀ h' tk, (∀ b o, b ∉ [z, TI, TO, i1, i2] → s.heap.get? b = some o → h'.get? b = some o) → Q none { s with heap := h', toks := tk }) :
    wpAny (model prog w) A (pyNext (.ref z)) Q E s := by
  have S2 := sep_of D D.l1i2 D.l2i1
  have D1 := drawsB (prog := prog) (w := w) (A := A.in1) hh b1 i1 a D.l1i1 xs
  have D2 := drawsB (prog := prog) (w := w) (A := A.in1) hh b2 i2 c D.l2i2 ys
  obtain ⟨h0, hTI, j1, j2, j3⟩ := st
  have four : ∀ {b : Addr}, b ∉ [z, TI, TO, i1, i2] → b ≠ z ∧ b ≠ TO ∧ b ≠ i1 ∧ b ≠ i2 := fun {b} hb => by
    simp only [List.mem_cons, List.not_mem_nil, or_false, not_or] at hb
    exact ⟨hb.1, hb.2.2.1, hb.2.2.2.1, hb.2.2.2.2⟩
  rcases h0 with ⟨x0, y0, hz, hTO⟩ | ⟨T, f, oT, hz, hT⟩
  · exact wpAny_pyNext_zipD2_end (i := i) S2 D1 D2 hz hTI hTO ⟨j1, p1⟩ ⟨j2, p2⟩ h1 h2 he fun h' tk hk => hQ h' tk fun b o hb q => by
      obtain ⟨n1, n2, n3, n4⟩ := four hb
      exact hk b o n1 n2 n3 n4 q
  · exact PySem.z2h_end (i := i) S2 D1 D2 hz hT hTI ⟨j1, p1⟩ ⟨j2, p2⟩ h1 h2 he fun h' tk hk => hQ h' tk fun b o hb q => by
      obtain ⟨n1, n2, n3, n4⟩ := four hb
      exact hk b o n1 n3 n4 q
end
theorem FpOk.on {X : Cx} {pins : List (Addr × Obj)} {H H' : Hp} {b : Addr} (f : FpOk X pins H b) (h : H' b = none) : FpOk X pins H' b := ⟨h, f.2⟩
theorem zl_loop {X : Cx} {A : Around} (hc : X.calm = true) (hh : A.handled = none) {b1 b2 : Bool} {a c z TI TO i1 i2 S : Addr} (ap : ZipApart z TI TO i1 i2 a c) (hSn : S ∉ [z, TI, TO, i1, i2]) {O : Addr → Prop} {H0 : Hp} {xs ys : List V} {ds es : List D} (qx : SqB X.K H0 b1 a xs) (qy : SqB X.K H0 b2 c ys)
    (rx : Reps X.K O H0 xs ds) (ry : Reps X.K O H0 ys es) (al : Al O H0) (nS : H0 S = none) (hz : (zipD ds es).length ≤ sizeLine) {pins : List (Addr × Obj)} {σ : St} {R : Result → Shared → Prop} (res : Value) :
    ∀ (k i : Nat) (s : Shared) (H : Hp) (vs : List V), (zipD ds es).length - i = k → i ≤ (zipD ds es).length → Inv X pins σ H s → (∀ b ∈ [z, TI, TO, i1, i2], FpOk X pins H b) → Same H0 H → H S = some (.lst vs) → Reps X.K (fun x => O x ∨ x = S) H vs ((zipD ds es).take i) →
      ZSt b1 b2 z TI TO i1 i2 a c s.heap i →
      (∀ s' H' vs', Inv X pins σ H' s' → Same H0 H' → H' S = some (.lst vs') → Reps X.K (fun x => O x ∨ x = S) H' vs' (zipD ds es) → R (.ok (.ret res)) s') →
      codeAny (model X.prog X.w) A (.builtin "list.extend.loop" ⟨[.ref S, .ref z, res], []⟩) R s := by
  have lx := rx.length
  have ly := ry.length
  have lz := zipD_len ds es
  intro k
  induction k with
  | zero =>
    intro i s H vs hk hi I fp sm hS rr st hR
    have hin : i = (zipD ds es).length := by omega
    subst hin
    obtain ⟨its, rv, p1, _⟩ := arB_of I (qx.same sm)
    obtain ⟨its2, rv2, p2, _⟩ := arB_of I (qy.same sm)
    have l1 := rv.length
    have l2 := rv2.length
    refine codeAny_builtin F.entry_extend_loop ?_
    rw [Around.under_plainId F.plain_extend_loop _]
    show wpAny _ A.in1 (pyNext (.ref z) >>= _) _ _ s
    refine wpAny_bind (zl_end (A := A.in1) hh ap st p1 p2 (by simp; omega) (by simp; omega) (by simp; omega) fun h' tk hk' => ?_)
    rw [List.take_length] at rr
    exact wpAny_pure (hR _ H vs (I.turnedL (t' := tk) (ch := [z, TI, TO, i1, i2]) (fun b o hb q => hk' b o hb q) fp) sm hS rr)
  | succ k ih =>
    intro i s H vs hk hi I fp sm hS rr st hR
    have hlt : i < (zipD ds es).length := by omega
    obtain ⟨its, rv, p1, la⟩ := arB_of I (qx.same sm)
    obtain ⟨its2, rv2, p2, lb⟩ := arB_of I (qy.same sm)
    have l1 := rv.length
    have l2 := rv2.length
    obtain ⟨da, db, ga, gb, gz⟩ := zipD_get ds es i (zipD ds es)[i] (List.getElem?_eq_getElem hlt)
    obtain ⟨x, hx, rpx⟩ := rx.at_ ga
    obtain ⟨y, hy, rpy⟩ := ry.at_ gb
    obtain ⟨u, hu, ru⟩ := rv.get hx
    obtain ⟨u2, hu2, ru2⟩ := rv2.get hy
    have lvs : vs.length = i := by rw [rr.length, List.length_take]; omega
    refine codeAny_builtin F.entry_extend_loop ?_
    rw [Around.under_plainId F.plain_extend_loop _]
    show wpAny _ A.in1 (pyNext (.ref z) >>= _) _ _ s
    refine wpAny_bind (zl_item (A := A.in1) hh ap st p1 p2 (by simp; omega) (by simp; omega) fun x1 x2 h' tk e1 e2 st' hT hk' => ?_)
    have q1 : x1 = u := by simp only [List.getElem?_toArray] at e1; rw [hu] at e1; exact (Option.some.inj e1).symm
    have q2 : x2 = u2 := by simp only [List.getElem?_toArray] at e2; rw [hu2] at e2; exact (Option.some.inj e2).symm
    subst q1 q2
    have new : ObjOk X.prog X.w (upd H s.heap.objs.size (.tup [x, y])) h' s.heap.objs.size (.tup [x, y]) := ⟨by show 2 ≤ sizeLine; decide, [x1, x2], .cons ru (.cons ru2 .nil), ⟨_, hT, rfl, _, rfl⟩⟩
    have fr : H s.heap.objs.size = none := I.fresh
    have I1 : Inv X pins σ (upd H s.heap.objs.size (.tup [x, y])) { s with heap := h', toks := tk } := I.turnedNew (t' := tk) (ch := [z, TI, TO, i1, i2]) (fun b o hb q => hk' b o hb q) fp (Nat.le_refl _) new
    have nST : S ≠ s.heap.objs.size := fun e => by rw [← e, hS] at fr; cases fr
    have hS1 : (upd H s.heap.objs.size (.tup [x, y])) S = some (.lst vs) := by rw [upd_ne nST]; exact hS
    obtain ⟨items, cap, rvs, ho, _⟩ := I1.lst hS1
    have lit := rvs.length
    show wpAny _ A.in1 (updateSeq S (·.push (.ref s.heap.objs.size)) >>= _) _ _ _
    refine wpAny_bind ?_
    have hsz2 : (vs ++ [V.ref s.heap.objs.size]).length ≤ sizeLine := by rw [List.length_append, lvs]; exact Nat.le_trans hlt hz
    have rvs2 : Vals (vs ++ [V.ref s.heap.objs.size]) (items ++ [Value.ref s.heap.objs.size]) := rvs.append (.cons (show L2.RelV (V.ref s.heap.objs.size) (Value.ref s.heap.objs.size) from rfl) .nil)
    have I2 : Inv X pins σ (upd (upd H s.heap.objs.size (.tup [x, y])) S (.lst (vs ++ [.ref s.heap.objs.size]))) { s with heap := h'.update S (Obj.mapSeq (·.push (.ref s.heap.objs.size))), toks := tk } :=
      I1.lset (t' := tk) (its' := items ++ [.ref s.heap.objs.size]) (f := (·.push (.ref s.heap.objs.size))) hS1 ho (by simp) rvs2 hsz2
    have hso : items.toArray.size ≤ sizeLine := by rw [List.size_toArray, ← lit, lvs]; exact Nat.le_trans (Nat.le_of_lt hlt) hz
    refine wpAny_updateSeq ho rfl (wpAny_pure ⟨plainId_quiet F.plain_extend_loop _, ?_⟩) hso (by rw [Array.size_push]; exact Nat.succ_le_succ hso)
    have oth : ∀ b o, b ≠ S → h'.get? b = some o → (h'.update S (Obj.mapSeq (·.push (.ref s.heap.objs.size)))).get? b = some o := fun b o hb e => (Heap.get?_update_other _ _ (Ne.symm hb)).trans e
    have self : ∃ o, (h'.update S (Obj.mapSeq (·.push (.ref s.heap.objs.size)))).get? S = some o := ⟨_, Heap.get?_update_self _ ho rfl⟩
    have exS : Ext (fun b => b = S) (upd H s.heap.objs.size (.tup [x, y])) (upd (upd H s.heap.objs.size (.tup [x, y])) S (.lst (vs ++ [.ref s.heap.objs.size]))) := fun b o n e => by rw [upd_ne n]; exact e
    have sm1 : Same H0 (upd H s.heap.objs.size (.tup [x, y])) := sm.trans (same_new fr)
    have nOT : ¬ (O s.heap.objs.size ∨ s.heap.objs.size = S) := fun z => z.elim (fun z => by
      have := (al.same sm) _ z
      exact this fr) fun e => nST e.symm
    have rpx' : Rep X.K (fun x => O x ∨ x = S) (upd H s.heap.objs.size (.tup [x, y])) x da := (rpx.shun (O' := fun x => O x ∨ x = S) fun b z => z.imp id fun e => by rw [e]; exact nS).same sm1
    have rpy' : Rep X.K (fun x => O x ∨ x = S) (upd H s.heap.objs.size (.tup [x, y])) y db := (rpy.shun (O' := fun x => O x ∨ x = S) fun b z => z.imp id fun e => by rw [e]; exact nS).same sm1
    have rpT : Rep X.K (fun x => O x ∨ x = S) (upd H s.heap.objs.size (.tup [x, y])) (.ref s.heap.objs.size) (.tup [da, db]) := .tup (.inl ⟨.inl upd_same, nOT⟩) (.cons rpx' (.cons rpy' .nil))
    have rr2 : Reps X.K (fun x => O x ∨ x = S) (upd (upd H s.heap.objs.size (.tup [x, y])) S (.lst (vs ++ [.ref s.heap.objs.size]))) (vs ++ [.ref s.heap.objs.size]) ((zipD ds es).take (i + 1)) := by
      rw [List.take_succ, List.getElem?_eq_getElem hlt, gz]
      exact (((rr.same (same_new fr)).append (Reps.one rpT))).ext exS fun b e => .inr e
    refine ih (i + 1) _ _ _ (by omega) hlt I2 (fun b hb => FpOk.on (fp b hb) ?_) (fun b o e => ?_) upd_same rr2 (st'.keep hSn oth self (Nat.le_of_eq (Heap.SameBut.update ..).1.symm)) hR
    · have n1 : b ≠ S := fun e => hSn (e ▸ hb)
      rw [upd_ne n1]
      have hbn := (fp b hb).1
      by_cases e : b = s.heap.objs.size
      · -- the chain's cells were there
        exfalso
        obtain ⟨h0, g1, g2, g3, g4⟩ := st
        have lt : b < s.heap.objs.size := by
          have e' : b = z ∨ b = TI ∨ b = TO ∨ b = i1 ∨ b = i2 := by simpa using hb
          rcases e' with q | q | q | q | q
          · rw [q]
            rcases h0 with ⟨_, _, g, _⟩ | ⟨_, _, _, g, _⟩
            · exact Heap.lt_size g
            · exact Heap.lt_size g
          · rw [q]; exact Heap.lt_size g1
          · rw [q]; exact g4
          · rw [q]; exact itB_lt g2
          · rw [q]; exact itB_lt g3
        rw [e] at lt
        exact Nat.lt_irrefl _ lt
      · rw [upd_ne e]; exact hbn
    · have n1 : b ≠ S := fun q => by rw [q, nS] at e; cases e
      rw [upd_ne n1]
      exact sm1 b o e
theorem zl_call {X : Cx} {A : Around} (hc : X.calm = true) (hh : A.handled = none) {b1 b2 : Bool} {a c z TI TO i1 i2 : Addr} (ap : ZipApart z TI TO i1 i2 a c) {O : Addr → Prop} {H0 : Hp} {xs ys : List V} {ds es : List D} (qx : SqB X.K H0 b1 a xs) (qy : SqB X.K H0 b2 c ys)
    (rx : Reps X.K O H0 xs ds) (ry : Reps X.K O H0 ys es) (al : Al O H0) (hz : (zipD ds es).length ≤ sizeLine) {pins : List (Addr × Obj)} {σ : St} {E : Value → Shared → Prop} {s : Shared} {Q : Value → Shared → Prop} (I : Inv X pins σ H0 s)
    (fp : ∀ b ∈ [z, TI, TO, i1, i2], FpOk X pins H0 b) (st : ZSt b1 b2 z TI TO i1 i2 a c s.heap 0) (hzz : IsZip s.heap z TI TO .none) (lt : ∀ b ∈ [z, TI, TO, i1, i2], b < s.heap.objs.size)
    (hQ : ∀ s' q H' vs', Inv X pins σ H' s' → H0 q = none → Same H0 H' → H' q = some (.lst vs') → Reps X.K (fun x => O x ∨ x = q) H' vs' (zipD ds es) → Q (.ref q) s') :
    wpAny (model X.prog X.w) A (call (.type "list") [.ref z]) Q E s := by
  have hSn : s.heap.objs.size ∉ [z, TI, TO, i1, i2] := fun hm => Nat.lt_irrefl _ (lt _ hm)
  have fr : H0 s.heap.objs.size = none := I.fresh
  refine callType_codes (Q₁ := fun obj s₁ => obj = .ref s.heap.objs.size ∧ s₁ = { s with heap := s.heap.push { cls := .type "list", data := .seq #[] } }) F.called_list (F.typeCall_list_1 _) F.entry_list_init
    (code_list_new _ ⟨rfl, rfl⟩) fun obj s₁ h₁ => ?_
  obtain ⟨rfl, rfl⟩ := h₁
  have hS : (s.heap.push { cls := .type "list", data := .seq #[] }).get? s.heap.objs.size = some { cls := .type "list", data := .seq #[] } := Heap.get?_push_size _ rfl
  have I1 : Inv X pins σ (upd H0 s.heap.objs.size (.lst [])) { s with heap := s.heap.push { cls := .type "list", data := .seq #[] } } := I.lnew (t' := s.toks) (its := []) .nil (Nat.zero_le _)
  have st1 : ZSt b1 b2 z TI TO i1 i2 a c (s.heap.push { cls := .type "list", data := .seq #[] }) 0 := st.keep hSn (fun b o _ e => Heap.get?_push_of_some _ e) ⟨_, hS⟩ (by rw [Heap.size_push]; exact Nat.le_succ _)
  refine ⟨⟨_, hS, rfl⟩, F.args_list_init_2 _ _, ?_⟩
  show wpAny _ A.in1.in1 (do let old ← Builtin.List.listItems (.ref s.heap.objs.size); Builtin.List.listUpdate (.ref s.heap.objs.size) (fun _ => #[]); letGo old.toList.reverse; Builtin.List.listExtendWith (.ref s.heap.objs.size) (.ref z) .none) _ _ { s with heap := s.heap.push { cls := .type "list", data := .seq #[] } }
  refine wpAny_bind ?_
  unfold Builtin.List.listItems
  refine wpAny_bind (wpAny_seqItems hS rfl (wpAny_pure ?_))
  show wpAny _ A.in1.in1 (updateSeq s.heap.objs.size (fun _ => #[]) >>= fun _ => letGo (#[] : Array Value).toList.reverse >>= fun _ => Builtin.List.listExtendWith (.ref s.heap.objs.size) (.ref z) .none) _ _ { s with heap := s.heap.push { cls := .type "list", data := .seq #[] } }
  have wr : ∀ {g : Heap} {t : Nat} {us : List V} {its its' : List Value} {n : Nat} {f : Array Value → Array Value} {us' : List V}, Inv X pins σ (upd H0 s.heap.objs.size (.lst us)) { s with heap := g, toks := t } → g.get? s.heap.objs.size = some { cls := .type "list", data := .seq its.toArray n } → f its.toArray = its'.toArray → Vals us' its' → us'.length ≤ sizeLine →
      Inv X pins σ (upd H0 s.heap.objs.size (.lst us')) { s with heap := g.update s.heap.objs.size (Obj.mapSeq f), toks := t } := fun {g t us its its' n f us'} J e hf hv hl => by
    have h := J.lset (t' := t) (l := s.heap.objs.size) (xs := us) upd_same e hf hv hl
    have e2 : upd (upd H0 s.heap.objs.size (.lst us)) s.heap.objs.size (.lst us') = upd H0 s.heap.objs.size (.lst us') := by
      funext b
      by_cases hb : b = s.heap.objs.size
      · rw [hb, upd_same, upd_same]
      · rw [upd_ne hb, upd_ne hb, upd_ne hb]
    rw [e2] at h
    exact h
  have zk : ∀ {g : Heap} {f : Obj → Obj}, ZSt b1 b2 z TI TO i1 i2 a c g 0 → (∃ o, g.get? s.heap.objs.size = some o) → (∃ o, (g.update s.heap.objs.size f).get? s.heap.objs.size = some o) → ZSt b1 b2 z TI TO i1 i2 a c (g.update s.heap.objs.size f) 0 := fun {g f} k _ h2 =>
    k.keep hSn (fun b o hb e => (Heap.get?_update_other _ _ (Ne.symm hb)).trans e) h2 (Nat.le_of_eq (Heap.SameBut.update ..).1.symm)
  refine wpAny_bind (wpAny_updateSeq hS rfl ?_)
  have hS₂ := Heap.get?_update_self (Obj.mapSeq (fun _ => (#[] : Array Value))) hS rfl
  have I2 := wr (t := s.toks) (its := []) (its' := []) (f := fun _ => #[]) (us' := []) I1 hS rfl .nil (Nat.zero_le _)
  have st2 := zk (f := Obj.mapSeq (fun _ => (#[] : Array Value))) st1 ⟨_, hS⟩ ⟨_, hS₂⟩
  refine wpAny_bind (wpAny_letGo ?_)
  unfold Builtin.List.listExtendWith
  have tz : ∀ {g : Heap} {t : Nat}, ZSt b1 b2 z TI TO i1 i2 a c g 0 → ({ s with heap := g, toks := t } : Shared).TypeIs (.ref z) "zip" := fun {g t} k => by
    rcases k.1 with ⟨x, y, q, _⟩ | ⟨T, f, oT, q, _⟩
    · exact ⟨_, q, rfl⟩
    · exact ⟨_, q, rfl⟩
  have T2 := tz (t := s.toks) st2
  refine wpAny_bind (wpAny_typeOf T2 ?_)
  have h1 : Builtin.List.listSameRef (.ref s.heap.objs.size) (.ref z) = false := by
    have : s.heap.objs.size ≠ z := fun e => hSn (by rw [e]; simp)
    simp [Builtin.List.listSameRef, this]
  have h2 : (Value.type "zip" == Value.type "list") = false := by decide
  have h3 : (Value.type "zip" == Value.type "tuple") = false := by decide
  simp only [h1, h2, h3, Bool.or_false, Bool.false_eq_true, if_false]
  refine wpAny_bind ?_
  have nz : s.heap.objs.size ≠ z := fun e => hSn (by rw [e]; simp)
  have hz2 : IsZip ((s.heap.push { cls := .type "list", data := .seq #[] }).update s.heap.objs.size (Obj.mapSeq (fun _ => (#[] : Array Value)))) z TI TO .none := (Heap.get?_update_other _ _ nz).trans (Heap.get?_push_of_some _ hzz)
  refine wpAny_pyIter_zip hz2 ?_
  refine wpAny_bind (wpAny_holding ?_)
  unfold Builtin.List.listLengthHint
  refine wpAny_bind (wpAny_specialOf T2 PySem.zip_no_len' ?_)
  show wpAny _ A.in1.in1 (specialOf (Value.ref z) (Str.ofString "__length_hint__") >>= _) _ _ _
  refine wpAny_bind (wpAny_specialOf T2 PySem.zip_no_hint' ?_)
  refine wpAny_pure ?_
  show wpAny _ A.in1.in1 (rule "list.extend.makes-room" >>= fun _ => Builtin.List.listTouch (.ref s.heap.objs.size) >>= fun _ =>
    again (.builtin "list.extend.loop" ⟨[.ref s.heap.objs.size, .ref z, .none], []⟩)) _ _ _
  refine wpAny_bind (wpAny_rule ?_)
  refine wpAny_bind ?_
  show wpAny _ A.in1.in1 (updateSeq s.heap.objs.size (·.push .none) >>= fun _ => updateSeq s.heap.objs.size (·.pop)) _ _ _
  refine wpAny_bind (wpAny_updateSeq hS₂ rfl ?_ (by exact Nat.zero_le _) (by show (#[Value.none] : Array Value).size ≤ _; exact Nat.le_add_left 1 _))
  have hS₃ := Heap.get?_update_self (Obj.mapSeq (·.push Value.none)) hS₂ rfl
  have I3 := wr (t := s.toks) (its := []) (its' := [.none]) (f := (·.push Value.none)) (us' := [.non]) I2 hS₂ rfl (.cons rfl .nil) (by decide)
  have st3 := zk (f := Obj.mapSeq (·.push Value.none)) st2 ⟨_, hS₂⟩ ⟨_, hS₃⟩
  refine wpAny_updateSeq hS₃ rfl ?_ (by show (#[Value.none] : Array Value).size ≤ _; decide) (by show (#[] : Array Value).size ≤ _; exact Nat.zero_le _)
  have hS₄ := Heap.get?_update_self (Obj.mapSeq (·.pop)) hS₃ rfl
  have I4 := wr (t := s.toks) (its := [.none]) (its' := []) (f := (·.pop)) (us' := []) I3 hS₃ rfl .nil (Nat.zero_le _)
  have st4 := zk (f := Obj.mapSeq (·.pop)) st3 ⟨_, hS₃⟩ ⟨_, hS₄⟩
  refine wpAny_pure ⟨plainId_quiet F.plain_extend_loop _, zl_loop (A := A.in1) hc hh ap hSn qx qy rx ry al fr hz .none _ 0 _ (upd H0 s.heap.objs.size (.lst [])) [] rfl (Nat.zero_le _) I4 (fun b hb => FpOk.on (fp b hb) ?_) (same_new fr) upd_same .nil st4 fun s' H' vs' I' sm hq rr => ?_⟩
  · have n1 : b ≠ s.heap.objs.size := fun e => hSn (e ▸ hb)
    rw [upd_ne n1]
    exact (fp b hb).1
  · exact ⟨rfl, hQ s' _ H' vs' I' fr sm hq rr⟩
def tLZ (K : PySem.W.Frag) (ta : TA) : TE := fun σ H Q => ta σ H fun vs H1 => ∃ (b1 b2 : Bool) (a c : Addr) (xs ys : List V) (O : Addr → Prop) (ds es : List D), vs = [.ref a, .ref c] ∧ SqB K H1 b1 a xs ∧ SqB K H1 b2 c ys ∧ Reps K O H1 xs ds ∧ Reps K O H1 ys es ∧ Al O H1 ∧ (zipD ds es).length ≤ sizeLine ∧
  ∀ q H' vs', H1 q = none → Same H1 H' → H' q = some (.lst vs') → Reps K (fun x => O x ∨ x = q) H' vs' (zipD ds es) → Q (.ref q) H'
theorem pe_listZip {X : Cx} {e e2 : Expr} {ta : TA} {pp p1 p2 pos : Pos} (hc : X.calm = true) (hg : Gl X "list") (hm : X.mg "list" = none) (hg2 : Gl X "zip") (hm2 : X.mg "zip" = none) (ha : PA X [e, e2] ta)
    (hs : starEach [e, e2] X.env = (false, eval e X.env) :: starEach [e2] X.env := by rfl) (hpl : (backTo p2 (starEach [e2] X.env)).any (·.1) = false := by rfl)
    (na : starEach [Expr.Call (.Name "zip" p1) [e, e2] [] p2] X.env = (false, eval (Expr.Call (.Name "zip" p1) [e, e2] [] p2) X.env) :: starEach [] X.env := by rfl) :
    PE X (.Call (.Name "list" pp) [.Call (.Name "zip" p1) [e, e2] [] p2] [] pos) (tLZ X.K ta) := by
  refine ⟨fun pins s σ H Q I h => ?_⟩
  refine Call_ (ld_blt I hg hm (u := .type "list") (by decide +kernel) (PyProof.Rows.callWith_type1 (args_cons (Call_ (ld_blt I hg2 hm2 PyProof.Rows.boot_zip (PyProof.Rows.callWith_type1 (thn (ha.run p2 pins s σ H _ I h) fun us s1 ⟨vs, H1, I1, r1, q1⟩ => ?_) hs hpl))) na) na))
  obtain ⟨b1, b2, a, b, xs, ys, O, ds, es, ex, hqx, hqy, rx, ry, al, hz, q⟩ := q1
  subst ex
  cases r1 with
  | cons r rr =>
    cases rr with
    | cons r' rr =>
      cases rr
      cases r
      cases r'
      obtain ⟨its, rv, g1, la⟩ := arB_of I1 hqx
      obtain ⟨its2, rv2, g2, lb⟩ := arB_of I1 hqy
      refine zip_begins2 (beginsB b1 a its.toArray) (beginsB b2 b its2.toArray) g1 g2 fun h' hz' hTI hTO h1 h2 hsz hk => args_nil ?_
      have I2 : Inv X pins σ H1 { s1 with heap := h' } := I1.kept (t' := s1.toks) hk
      have ge : ∀ c ∈ [s1.heap.objs.size + 4, s1.heap.objs.size + 2, s1.heap.objs.size + 3, s1.heap.objs.size, s1.heap.objs.size + 1], s1.heap.objs.size ≤ c := fun c hcm => by
        have e' : c = s1.heap.objs.size + 4 ∨ c = s1.heap.objs.size + 2 ∨ c = s1.heap.objs.size + 3 ∨ c = s1.heap.objs.size ∨ c = s1.heap.objs.size + 1 := by simpa using hcm
        rcases e' with z | z | z | z | z
        · rw [z]; exact Nat.le_add_right _ _
        · rw [z]; exact Nat.le_add_right _ _
        · rw [z]; exact Nat.le_add_right _ _
        · rw [z]; exact Nat.le_refl _
        · rw [z]; exact Nat.le_add_right _ _
      have st : ZSt b1 b2 (s1.heap.objs.size + 4) (s1.heap.objs.size + 2) (s1.heap.objs.size + 3) s1.heap.objs.size (s1.heap.objs.size + 1) a b h' 0 := ⟨.inl ⟨_, _, hz', hTO⟩, hTI, itB_new h1, itB_new h2, Heap.lt_size hTO⟩
      refine zl_call (s := { s1 with heap := h' }) hc (I1.ok.hd hc) (PySem.W.ktu_apart s1.heap.objs.size a b la lb) hqx hqy rx ry al hz I2 (fun c hcm => I1.fpOk (ge c hcm) (I1.hok.fresh (ge c hcm))) st hz' (fun c hcm => ?_) fun s' q' H' vs' I' n sm hq rr => ⟨.ref q', H', I', rfl, q q' H' vs' n sm hq rr⟩
      have e' : c = s1.heap.objs.size + 4 ∨ c = s1.heap.objs.size + 2 ∨ c = s1.heap.objs.size + 3 ∨ c = s1.heap.objs.size ∨ c = s1.heap.objs.size + 1 := by simpa using hcm
      rcases e' with z | z | z | z | z
      · rw [z]; exact Heap.lt_size hz'
      · rw [z]; exact Heap.lt_size hTI
      · rw [z]; exact Heap.lt_size hTO
      · rw [z]; exact Heap.lt_size h1
      · rw [z]; exact Heap.lt_size h2
end RT
namespace RT
open PySem PySem.Spec PyProof.Rows L2
section
variable {K : PySem.W.Frag} {w w1 w2 : Bool} {X : Cx} {E : XK} {p q : Bool} {a b e : Expr} {fe fa fb : ES} {pp pos p1 p2 : Pos}
theorem EV.wk (h : EV X E p w e fe) : EV X E p true e fe := by
  obtain ⟨t, pt, rt⟩ := h.ex
  exact ⟨t, pt, fun O W σ H ρ Q s h => rt O W σ H ρ Q s (h.mono (fun x hx v H' po r => hx v H' po r.weak) fun _ _ z => z)⟩
def dNeg : D → Option D
  | .int i => some (.int (-i))
  | _ => none
theorem ud_neg : Ud K w (rU fun i => .int (-i)) dNeg := by
  intro O H x a c Q al r e hq
  cases a <;> cases e
  exact ⟨_, r.int_inv, hq _ H (same_refl H) (.int _)⟩
theorem op_isNot1 : OpR X (compareOp .IsNot) (fun x y H Q => y = .non ∧ Q (.bl (!decide (x = .non))) H) := op_notN
def dIAdd (a b : D) : Option D := match a, b with
  | .int i, .int j => some (.int (i + j))
  | _, _ => none
def oZip (f g : ES) : AS := fun ρ => (f ρ).bind fun x => (g x.2).bind fun y => (ofO (seqD x.1)).bind fun ds => (ofO (seqD y.1)).bind fun es => if (zipD ds es).length ≤ sizeLine then .ok (zipD ds es, y.2) else .bad
theorem eo_listZip (hc : X.calm = true) (hg : Gl X "list") (hm : X.mg "list" = none) (hg2 : Gl X "zip") (hm2 : X.mg "zip" = none) (ha : EV X E p w1 a fa) (hb : EV X E q w2 b fb) (hw : (!w1 || q) = true := by rfl)
    (n1 : starEach [a, b] X.env = (false, eval a X.env) :: starEach [b] X.env := by rfl) (n2 : starEach [b] X.env = (false, eval b X.env) :: starEach [] X.env := by rfl) (n3 : (backTo p2 (starEach [b] X.env)).any (·.1) = false := by rfl)
    (n4 : starEach [Expr.Call (.Name "zip" p1) [a, b] [] p2] X.env = (false, eval (Expr.Call (.Name "zip" p1) [a, b] [] p2) X.env) :: starEach [] X.env := by rfl) :
    EO X E (p && q) (.Call (.Name "list" pp) [.Call (.Name "zip" p1) [a, b] [] p2] [] pos) (oZip fa fb) := by
  obtain ⟨ta, pa, ra⟩ := ha.ex
  obtain ⟨tb, pb, rb⟩ := hb.ex
  refine ⟨_, pe_listZip hc hg hm hg2 hm2 (pa_cons pa (pa_cons pb pa_nil n2) n1) n1 n3 n4, fun O W σ H ρ Q s h => ?_⟩
  refine ra O W σ H ρ _ s (h.bind.mono (fun x hx v H1 po r1 => ?_) fun _ _ z => z)
  refine rb O W σ H1 x.2 _ po.st (hx.bind.mono (fun y hy u H2 po2 r2 => ?_) fun _ _ z => z.on po.ext)
  obtain ⟨ds, eds, hy⟩ := hy.bind.ofO
  obtain ⟨es, ees, hy⟩ := (Wr.bind hy).ofO
  have p12 := po.trans po2
  obtain ⟨b1, a1, xs, rfl, g1⟩ := gs_of (po2.keepW hw r1) eds
  obtain ⟨b2, a2, ys, rfl, g2⟩ := gs_of r2 ees
  by_cases hz : (zipD ds es).length ≤ sizeLine
  · rw [if_pos hz] at hy
    refine ⟨b1, b2, a1, a2, xs, ys, O, ds, es, rfl, g1.1, g2.1, g1.2.1, g2.2.1, po2.st.al, hz, fun q H' vs' n sm hq rr => ?_⟩
    exact hy q vs' H' (p12.free' n) (p12.more sm) (po2.st.grow2 sm n hq) hq rr
  · rw [if_neg hz] at hy
    exact hy.elim
end
end RT
namespace RT
open PySem PySem.Spec PyProof.Rows L2
section
variable {ρ : List B} {d : D} {f g h : ES} {a b : AS} {c c2 : BS} {F G : List B → Fl} {i j : Nat}
@[simp] theorem r_eC : eC d ρ = .ok (d, ρ) := rfl
@[simp] theorem r_eSlot : eSlot i ρ = match ρ[i]? with | some (.va d) => .ok (d, ρ) | _ => .bad := rfl
@[simp] theorem r_eSlotW : eSlotW i ρ = match ρ[i]? with | some (.va d) => .ok (d, ρ) | some (.ow _ ds) => .ok (.lst ds, ρ) | _ => .bad := rfl
@[simp] theorem r_eOp {o : D → D → Option D} : eOp o f g ρ = (f ρ).bind fun x => (g x.2).bind fun y => (ofO (o x.1 y.1)).bind fun z => .ok (z, y.2) := rfl
@[simp] theorem r_eUn {o : D → Option D} : eUn o f ρ = (f ρ).bind fun x => (ofO (o x.1)).bind fun z => .ok (z, x.2) := rfl
@[simp] theorem r_bV : bV f ρ = (f ρ).bind fun x => match x.1 with | .bl b => .ok (b, x.2) | _ => .bad := rfl
@[simp] theorem r_bNot : bNot c ρ = (c ρ).bind fun x => .ok (!x.1, x.2) := rfl
@[simp] theorem r_bAnd : bAnd c c2 ρ = (c ρ).bind fun x => match x.1 with | true => c2 x.2 | false => .ok (false, x.2) := rfl
@[simp] theorem r_bOr : bOr c c2 ρ = (c ρ).bind fun x => match x.1 with | true => .ok (true, x.2) | false => c2 x.2 := rfl
@[simp] theorem r_eIf : eIf c f g ρ = (c ρ).bind fun x => match x.1 with | true => f x.2 | false => g x.2 := rfl
@[simp] theorem r_eAnd : eAnd f g ρ = (f ρ).bind fun x => match x.1 with | .bl true => g x.2 | .bl false => .ok (.bl false, x.2) | _ => .bad := rfl
@[simp] theorem r_eOr : eOr f g ρ = (f ρ).bind fun x => match x.1 with | .bl true => .ok (.bl true, x.2) | .bl false => g x.2 | _ => .bad := rfl
@[simp] theorem r_eNot : eNot f ρ = (f ρ).bind fun x => match x.1 with | .bl k => .ok (.bl (!k), x.2) | _ => .bad := rfl
@[simp] theorem r_eChain {o o2 : D → D → Option D} : eChain o o2 f g h ρ = (f ρ).bind fun x => (g x.2).bind fun y => (ofO (o x.1 y.1)).bind fun z => match z with
  | .bl true => (h y.2).bind fun u => (ofO (o2 y.1 u.1)).bind fun z => match z with
    | .bl k => .ok (.bl k, u.2)
    | _ => .bad
  | .bl false => .ok (.bl false, y.2)
  | _ => .bad := rfl
@[simp] theorem r_aNil : aNil ρ = .ok ([], ρ) := rfl
@[simp] theorem r_aCons : aCons f a ρ = (f ρ).bind fun x => (a x.2).bind fun y => .ok (x.1 :: y.1, y.2) := rfl
@[simp] theorem r_aStar : aStar f a ρ = (f ρ).bind fun x => (ofO (seqD x.1)).bind fun ds => (a x.2).bind fun y => .ok (ds ++ y.1, y.2) := rfl
@[simp] theorem r_eTup : eTup a ρ = (a ρ).bind fun x => if x.1.length ≤ sizeLine then .ok (.tup x.1, x.2) else .bad := rfl
@[simp] theorem r_oLst : oLst a ρ = (a ρ).bind fun x => if x.1.length ≤ sizeLine then .ok (x.1, x.2) else .bad := rfl
@[simp] theorem r_eO : eO a ρ = (a ρ).bind fun x => .ok (.lst x.1, x.2) := rfl
@[simp] theorem r_eBlt {o : List D → Option D} : eBlt o a ρ = (a ρ).bind fun x => (ofO (o x.1)).bind fun z => .ok (z, x.2) := rfl
@[simp] theorem r_oBlt {o : List D → Option (List D)} : oBlt o a ρ = (a ρ).bind fun x => (ofO (o x.1)).bind fun z => .ok (z, x.2) := rfl
@[simp] theorem r_eSl {p q : List B → Rs (Option Int × List B)} : eSl f p q ρ = (f ρ).bind fun x => (p x.2).bind fun y => (q y.2).bind fun z => (ofO (dSl x.1 y.1 z.1)).bind fun d => .ok (d, z.2) := rfl
@[simp] theorem r_oNo : oNo ρ = .ok (none, ρ) := rfl
@[simp] theorem r_oAt : oAt f ρ = (f ρ).bind fun x => match x.1 with | .int i => .ok (some i, x.2) | _ => .bad := rfl
@[simp] theorem r_eIndex : eIndex f g ρ = (f ρ).bind fun x => (ofO (lstD x.1)).bind fun ds => (g x.2).bind fun y => (ofO (dIndex (.lst ds) y.1)).bind fun z => .ok (z, y.2) := rfl
@[simp] theorem r_eApp : eApp i f ρ = (atOw i ρ).bind fun _ => (f ρ).bind fun x => (atOw i x.2).bind fun y => if y.2.length < sizeLine then .ok (.non, x.2.set i (.ow y.1 (y.2 ++ [x.1]))) else .bad := rfl
@[simp] theorem r_atOw : atOw i ρ = match ρ[i]? with | some (.ow k ds) => .ok (k, ds) | _ => .bad := rfl
@[simp] theorem r_eCall {Fn : FS} : eCall Fn a ρ = (a ρ).bind fun x => (noX (Fn (x.1.map .va))).bind fun y => .ok (y.1, x.2) := rfl
@[simp] theorem r_eCallB {Fn : FS} : eCallB j Fn a ρ = (atOw j ρ).bind fun _ => (a ρ).bind fun x => (atOw j x.2).bind fun z => (noX (Fn (.ow true z.2 :: x.1.map .va))).bind fun y => match y.2 with
  | .ow true es :: _ => .ok (y.1, x.2.set j (.ow z.1 es))
  | _ => .bad := rfl
@[simp] theorem r_oCall {Fn : FSO} : oCall Fn a ρ = (a ρ).bind fun x => (noX (Fn x.1)).bind fun y => .ok (y, x.2) := rfl
@[simp] theorem r_eCall0 {Fn : FS} : eCall0 Fn ρ = (noX (Fn [])).bind fun y => .ok (y.1, ρ) := rfl
@[simp] theorem r_iSeq : iSeq f ρ = (f ρ).bind fun x => (ofO (seqD x.1)).bind fun ds => .ok (ds, x.2) := rfl
@[simp] theorem r_iRange1 : iRange1 f ρ = (f ρ).bind fun x => match x.1 with | .int n => (ofO (rangeD 0 n)).bind fun ds => .ok (ds, x.2) | _ => .bad := by
  unfold iRange1
  rfl
@[simp] theorem r_iEnum : iEnum' f ρ = (f ρ).bind fun x => (ofO (seqD x.1)).bind fun ds => .ok (enumD 0 ds, x.2) := rfl
@[simp] theorem r_iZip : iZip' f g ρ = (f ρ).bind fun x => (g x.2).bind fun y => (ofO (seqD x.1)).bind fun ds => (ofO (seqD y.1)).bind fun es => .ok (zipD ds es, y.2) := rfl
@[simp] theorem r_oZip : oZip f g ρ = (f ρ).bind fun x => (g x.2).bind fun y => (ofO (seqD x.1)).bind fun ds => (ofO (seqD y.1)).bind fun es => if (zipD ds es).length ≤ sizeLine then .ok (zipD ds es, y.2) else .bad := rfl
@[simp] theorem r_oRg1 : oRg1 f ρ = (f ρ).bind fun x => match x.1 with | .int n => (ofO (rgD 0 n)).bind fun ds => .ok (ds, x.2) | _ => .bad := rfl
@[simp] theorem r_bYes : bYes ρ = .ok (true, ρ) := rfl
@[simp] theorem r_sNx : sNx ρ = .nx ρ := rfl
@[simp] theorem r_sSeq : sSeq F G ρ = match F ρ with | .nx ρ1 => G ρ1 | f => f := rfl
@[simp] theorem r_sRs_ok {α : Type} {x : α} {k : α → Fl} : sRs (.ok x) k = k x := rfl
@[simp] theorem r_sRs_bad {α : Type} {k : α → Fl} : sRs .bad k = .bad := rfl
@[simp] theorem r_sDo : sDo f ρ = sRs (f ρ) fun x => .nx x.2 := rfl
@[simp] theorem r_sRet : sRet f ρ = sRs (f ρ) fun x => .rt x.1 x.2 := rfl
@[simp] theorem r_sRetO : sRetO a ρ = sRs (a ρ) fun x => .ro x.1 x.2 := rfl
@[simp] theorem r_sIf : sIf c F G ρ = sRs (c ρ) fun x => match x.1 with | true => F x.2 | false => G x.2 := rfl
@[simp] theorem r_sSet : sSet i f ρ = sRs (f ρ) fun x => .nx (x.2.set i (.va x.1)) := rfl
@[simp] theorem r_sSetO : sSetO i a ρ = sRs (a ρ) fun x => .nx (x.2.set i (.ow false x.1)) := rfl
@[simp] theorem r_sAug {o : D → D → Option D} : sAug i o f ρ = sRs (eSlot i ρ) fun z => sRs (f ρ) fun x => sRs (ofO (o z.1 x.1)) fun d => .nx (x.2.set i (.va d)) := rfl
@[simp] theorem r_sFz : sFz i F ρ = F (fzB i ρ) := rfl
@[simp] theorem r_fzB : fzB i ρ = match ρ[i]? with | some (.ow false ds) => ρ.set i (.va (.lst ds)) | _ => ρ := rfl
@[simp] theorem r_sPut : sPut i g f ρ = sRs (f ρ) fun x => sRs (atOw i x.2) fun _ => sRs (g x.2) fun y => sRs (atOw i y.2) fun z => match y.1 with
  | .int k => match ixN z.2.length k with
    | some j => .nx (y.2.set i (.ow z.1 (z.2.set j x.1)))
    | none => .bad
  | _ => .bad := rfl
@[simp] theorem r_sFor {tg : D → Option (List (Nat × D))} : sFor a tg F ρ = sRs (a ρ) fun x => forGo tg F x.1 x.2 := rfl
@[simp] theorem r_sUnp {tg : D → Option (List (Nat × D))} : sUnp f tg ρ = sRs (f ρ) fun x => sRs (ofO (tg x.1)) fun as => .nx (putB x.2 as) := rfl
@[simp] theorem r_sPar {is : List Nat} {m : MS} : sPar is m ρ = sRs (m ρ) fun x => if x.1.length = is.length then .nx (setB x.2 is x.1) else .bad := rfl
@[simp] theorem r_mNil : mNil ρ = .ok ([], ρ) := rfl
@[simp] theorem r_mVa {m : MS} : mVa f m ρ = (f ρ).bind fun x => (m x.2).bind fun y => .ok (.va x.1 :: y.1, y.2) := rfl
@[simp] theorem r_mOw {m : MS} : mOw a m ρ = (a ρ).bind fun x => (m x.2).bind fun y => .ok (.ow false x.1 :: y.1, y.2) := rfl
@[simp] theorem r_setB0 {is : List Nat} : setB ρ is [] = ρ := by cases is <;> rfl
@[simp] theorem r_setB1 {is : List Nat} {b : B} {bs : List B} : setB ρ (i :: is) (b :: bs) = setB (ρ.set i b) is bs := rfl
@[simp] theorem r_gN : gN i d = some [(i, d)] := rfl
@[simp] theorem r_gsNil : gsNil [] = some [] := rfl
@[simp] theorem r_gsCons {tg : D → Option (List (Nat × D))} {tgs : List D → Option (List (Nat × D))} {ds : List D} : gsCons tg tgs (d :: ds) = (tg d).bind fun a => (tgs ds).bind fun b => some (a ++ b) := rfl
@[simp] theorem r_gT {tgs : List D → Option (List (Nat × D))} {ds : List D} : gT tgs (.tup ds) = tgs ds := rfl
@[simp] theorem r_putB0 : putB ρ [] = ρ := rfl
@[simp] theorem r_putB1 {r : List (Nat × D)} : putB ρ ((i, d) :: r) = putB (ρ.set i (.va d)) r := rfl
@[simp] theorem r_wipeB0 : wipeB ρ [] = ρ := rfl
@[simp] theorem r_wipeB1 {vs : List Nat} : wipeB ρ (i :: vs) = (wipeB ρ vs).set i .un := rfl
@[simp] theorem r_restB0 {ρ1 : List B} : restB ρ1 ρ [] = ρ := rfl
@[simp] theorem r_restB1 {ρ1 : List B} {vs : List Nat} : restB ρ1 ρ (i :: vs) = (restB ρ1 ρ vs).set i (ρ1.getD i .un) := rfl
@[simp] theorem r_seqT {ds : List D} : seqD (.tup ds) = some ds := rfl
@[simp] theorem r_seqL {ds : List D} : seqD (.lst ds) = some ds := rfl
@[simp] theorem r_lstD {ds : List D} : lstD (.lst ds) = some ds := rfl
end
@[simp] theorem r_addI {i j : Int} : dAdd (.int i) (.int j) = some (.int (i + j)) := rfl
@[simp] theorem r_subI {i j : Int} : dSub (.int i) (.int j) = some (.int (i - j)) := rfl
@[simp] theorem r_iaddI {i j : Int} : dIAdd (.int i) (.int j) = some (.int (i + j)) := rfl
@[simp] theorem r_neg {i : Int} : dNeg (.int i) = some (.int (-i)) := rfl
@[simp] theorem r_mulI {i j : Int} : dMul (.int i) (.int j) = if CMulW i j then some (.int (i * j)) else none := rfl
@[simp] theorem r_divI {i j : Int} : dDiv (.int i) (.int j) = if CDivW i j then some (.int (i / j)) else none := rfl
@[simp] theorem r_modI {i j : Int} : dMod (.int i) (.int j) = if 0 < j then some (.int (i % j)) else none := rfl
@[simp] theorem r_powI {i j : Int} : dPow (.int i) (.int j) = if CPowW i j then some (.int (i ^ j.toNat)) else none := rfl
@[simp] theorem r_ltI {i j : Int} : dLt (.int i) (.int j) = some (.bl (decide (i < j))) := rfl
@[simp] theorem r_leI {i j : Int} : dLe (.int i) (.int j) = some (.bl (decide (i ≤ j))) := rfl
@[simp] theorem r_gtI {i j : Int} : dGt (.int i) (.int j) = some (.bl (decide (j < i))) := rfl
@[simp] theorem r_geI {i j : Int} : dGe (.int i) (.int j) = some (.bl (decide (j ≤ i))) := rfl
@[simp] theorem r_eqI {i j : Int} : dEq (.int i) (.int j) = some (.bl (i == j)) := rfl
@[simp] theorem r_neI {i j : Int} : dNe (.int i) (.int j) = some (.bl (!(i == j))) := rfl
@[simp] theorem r_eqS {i j : Str} : dEq (.str i) (.str j) = some (.bl (i == j)) := rfl
@[simp] theorem r_neS {i j : Str} : dNe (.str i) (.str j) = some (.bl (!(i == j))) := rfl
@[simp] theorem r_ixT {ds : List D} {i : Int} : dIx (.tup ds) (.int i) = (ixN ds.length i).bind fun j => ds[j]? := rfl
@[simp] theorem r_ixL {ds : List D} {i : Int} : dIx (.lst ds) (.int i) = (ixN ds.length i).bind fun j => ds[j]? := rfl
@[simp] theorem r_slT {ds : List D} {i j : Option Int} : dSl (.tup ds) i j = some (.tup (cutD ds i j)) := rfl
@[simp] theorem r_slL {ds : List D} {i j : Option Int} : dSl (.lst ds) i j = some (.lst (cutD ds i j)) := rfl
@[simp] theorem r_lenL {ds : List D} : dLen [.lst ds] = some (.int ds.length) := rfl
@[simp] theorem r_lenT {ds : List D} : dLen [.tup ds] = some (.int ds.length) := rfl
@[simp] theorem r_absI {i : Int} : dAbs [.int i] = some (.int (if i < 0 then -i else i)) := rfl
@[simp] theorem r_intI {i : Int} : dInt [.int i] = some (.int i) := rfl
@[simp] theorem r_intB {i : Bool} : dInt [.bl i] = some (.int (if i then 1 else 0)) := rfl
@[simp] theorem r_tupL {ds : List D} : dTuple [.lst ds] = some (.tup ds) := rfl
@[simp] theorem r_tupT {ds : List D} : dTuple [.tup ds] = some (.tup ds) := rfl
@[simp] theorem r_listL {ds : List D} : dList [.lst ds] = some ds := rfl
@[simp] theorem r_listT {ds : List D} : dList [.tup ds] = some ds := rfl
@[simp] theorem r_max2 {i j : Int} : dMax [.int i, .int j] = some (.int (if j > i then j else i)) := rfl
@[simp] theorem r_min2 {i j : Int} : dMin [.int i, .int j] = some (.int (if j < i then j else i)) := rfl
theorem intsD_map (ns : List Int) : intsD (ns.map D.int) = some ns := by
  induction ns with
  | nil => rfl
  | cons n ns ih => rw [List.map_cons]; show (intsD (ns.map D.int)).map (n :: ·) = _; rw [ih]; rfl
theorem boolsD_map (ns : List Bool) : boolsD (ns.map D.bl) = some ns := by
  induction ns with
  | nil => rfl
  | cons n ns ih => rw [List.map_cons]; show (boolsD (ns.map D.bl)).map (n :: ·) = _; rw [ih]; rfl
theorem r_allL (bs : List Bool) : dAll [.lst (bs.map D.bl)] = some (.bl (bs.all id)) := by
  show (boolsD (bs.map D.bl)).map _ = _; rw [boolsD_map]; rfl
theorem r_anyL (bs : List Bool) : dAny [.lst (bs.map D.bl)] = some (.bl (bs.any id)) := by
  show (boolsD (bs.map D.bl)).map _ = _; rw [boolsD_map]; rfl
theorem r_sumL (bs : List Int) : dSum [.lst (bs.map D.int)] = some (.int bs.sum) := by
  show (intsD (bs.map D.int)).map _ = _; rw [intsD_map]; rfl
theorem r_maxL (bs : List Int) : dMax [.lst (bs.map D.int)] = (maxL bs).map .int := by
  show ((intsD (bs.map D.int)).bind maxL).map _ = _; rw [intsD_map]; rfl
theorem r_minL (bs : List Int) : dMin [.lst (bs.map D.int)] = (minL bs).map .int := by
  show ((intsD (bs.map D.int)).bind minL).map _ = _; rw [intsD_map]; rfl
theorem r_sortedL (bs : List Int) : dSorted [.lst (bs.map D.int)] = some ((sortI bs).map D.int) := by
  show (intsD (bs.map D.int)).map _ = _; rw [intsD_map]; rfl
theorem r_allA {α : Type} (L : List α) (f : α → Bool) : dAll [.lst (L.map fun a => D.bl (f a))] = some (.bl (L.all f)) := by
  have e : (L.map fun a => D.bl (f a)) = (L.map f).map D.bl := by rw [List.map_map] <;> rfl
  rw [e, r_allL]
  simp
theorem restB_wipe {ρ : List B} : ∀ {vs : List Nat}, restB ρ (wipeB ρ vs) vs = ρ := fun {vs} => by
  refine ext_get fun i => ?_
  by_cases hi : i ∈ vs
  · rw [restB_in (wipeB_length _ _) hi]
  · rw [restB_out hi, wipeB_out hi]
section
variable {α : Type} {vs : List Nat} {it : AS} {tg : D → Option (List (Nat × D))} {tt : BS} {te : ES} {ρ ρ1 : List B}
theorem lcGo_pure (hρ : wipeB ρ vs = ρ) (enc : α → D) (c : α → Bool) (f : α → D) : ∀ (L : List α) (acc : List D),
    (∀ a ∈ L, ∃ as, tg (enc a) = some as ∧ (∀ j ∈ as.map (·.1), j ∈ vs) ∧ tt (putB ρ as) = .ok (c a, putB ρ as) ∧ (c a = true → te (putB ρ as) = .ok (f a, putB ρ as))) → acc.length + L.length ≤ sizeLine →
    lcGo vs tg tt te (L.map enc) ρ acc = .ok (acc ++ (L.filter c).map f, ρ)
  | [], acc, _, _ => by simp [lcGo]
  | a :: L, acc, h, hz => by
    obtain ⟨as, h1, h2, h3, h4⟩ := h a List.mem_cons_self
    have ih := lcGo_pure hρ enc c f L
    have hb : ∀ b ∈ L, _ := fun b hb => h b (List.mem_cons_of_mem _ hb)
    have ew : wipeB (putB ρ as) vs = ρ := by
      have := wipeB_put (ρ := ρ) (vs := vs) (us := as) h2
      rw [hρ] at this
      exact this
    rw [List.length_cons] at hz
    rw [List.map_cons]
    unfold lcGo
    rw [h1]
    simp only [h3, noX_ok, Rs.ok_bind]
    cases ec : c a with
    | false =>
      simp only [ew]
      rw [ih acc hb (by omega), List.filter_cons, if_neg (by rw [ec]; simp)]
    | true =>
      simp only [h4 ec, noX_ok, Rs.ok_bind]
      rw [if_pos (by omega), ew, ih (acc ++ [f a]) hb (by simp; omega), List.filter_cons, if_pos ec]
      simp
theorem oLc_pure (L : List α) (enc : α → D) (c : α → Bool) (f : α → D) (hit : it ρ = .ok (L.map enc, ρ1)) (hno : noOw ρ1 vs = true)
    (hb : ∀ a ∈ L, ∃ as, tg (enc a) = some as ∧ (∀ j ∈ as.map (·.1), j ∈ vs) ∧ tt (putB (wipeB ρ1 vs) as) = .ok (c a, putB (wipeB ρ1 vs) as) ∧ (c a = true → te (putB (wipeB ρ1 vs) as) = .ok (f a, putB (wipeB ρ1 vs) as)))
    (hz : L.length ≤ sizeLine) : oLc vs it tg tt te ρ = .ok ((L.filter c).map f, ρ1) := by
  unfold oLc
  rw [hit, Rs.ok_bind]
  have e0 : wipeB (wipeB ρ1 vs) vs = wipeB ρ1 vs := by simpa using wipeB_put (ρ := ρ1) (vs := vs) (us := []) (fun i h => nomatch h)
  simp only [hno, if_true]
  rw [lcGo_pure e0 enc c f L [] hb (by simpa using hz)]
  simp [restB_wipe]
theorem oLc_map (L : List α) (enc : α → D) (f : α → D) (hit : it ρ = .ok (L.map enc, ρ1)) (hno : noOw ρ1 vs = true)
    (hb : ∀ a ∈ L, ∃ as, tg (enc a) = some as ∧ (∀ j ∈ as.map (·.1), j ∈ vs) ∧ te (putB (wipeB ρ1 vs) as) = .ok (f a, putB (wipeB ρ1 vs) as))
    (hz : L.length ≤ sizeLine) : oLc vs it tg bYes te ρ = .ok (L.map f, ρ1) := by
  have := oLc_pure (tt := bYes) (te := te) L enc (fun _ => true) f hit hno (fun a ha => by
    obtain ⟨as, h1, h2, h3⟩ := hb a ha
    exact ⟨as, h1, h2, rfl, fun _ => h3⟩) hz
  rw [this, List.filter_eq_self.mpr fun _ _ => rfl]
theorem lcGo_st {S β : Type} (I : Nat → S → Prop) (En : S → List B) (enc : α → D) (encB : β → D) (R : α → β → Prop) : ∀ (L : List α) (k : Nat) (s : S) (acc : List D), I k s →
    (∀ a ∈ L, ∀ j s, k ≤ j → j < k + L.length → I j s → ∃ as b s' ρ5, tg (enc a) = some as ∧ te (putB (En s) as) = .ok (encB b, ρ5) ∧ wipeB ρ5 vs = En s' ∧ I (j + 1) s' ∧ R a b) → acc.length + L.length ≤ sizeLine →
    ∃ (bs : List β) (s' : S), lcGo vs tg bYes te (L.map enc) (En s) acc = .ok (acc ++ bs.map encB, En s') ∧ I (k + L.length) s' ∧ bs.length = L.length ∧ ∀ (i : Nat) (a : α) (b : β), L[i]? = some a → bs[i]? = some b → R a b
  | [], k, s, acc, hI, _, _ => ⟨[], s, by simp [lcGo], hI, rfl, fun i a d h => by simp at h⟩
  | a :: L, k, s, acc, hI, h, hz => by
    obtain ⟨as, b, s', ρ5, h1, h2, h3, h4, h5⟩ := h a List.mem_cons_self k s (Nat.le_refl _) (by simp) hI
    rw [List.length_cons] at hz
    obtain ⟨outs, s2, q1, q2, q3, q4⟩ := lcGo_st I En enc encB R L (k + 1) s' (acc ++ [encB b]) h4 (fun b hb j s hj hj2 => h b (List.mem_cons_of_mem _ hb) j s (by omega) (by simp; omega)) (by simp; omega)
    refine ⟨b :: outs, s2, ?_, by rw [List.length_cons, show k + (L.length + 1) = k + 1 + L.length by omega]; exact q2, by simp [q3], fun i x e g1 g2 => ?_⟩
    · rw [List.map_cons]
      unfold lcGo
      rw [h1]
      simp only [r_bYes, noX_ok, Rs.ok_bind, h2]
      rw [if_pos (by omega), h3, q1]
      simp
    · cases i with
      | zero =>
        simp at g1 g2
        subst g1 g2
        exact h5
      | succ i => exact q4 i x e (by simpa using g1) (by simpa using g2)
theorem oLc_st {S β : Type} (I : Nat → S → Prop) (En : S → List B) (enc : α → D) (encB : β → D) (R : α → β → Prop) (L : List α) (k : Nat) (s : S) (hI : I k s) (hit : it ρ = .ok (L.map enc, ρ1)) (hno : noOw ρ1 vs = true) (h0 : wipeB ρ1 vs = En s)
    (h : ∀ a ∈ L, ∀ j s, k ≤ j → j < k + L.length → I j s → ∃ as b s' ρ5, tg (enc a) = some as ∧ te (putB (En s) as) = .ok (encB b, ρ5) ∧ wipeB ρ5 vs = En s' ∧ I (j + 1) s' ∧ R a b) (hz : L.length ≤ sizeLine) :
    ∃ (bs : List β) (s' : S), oLc vs it tg bYes te ρ = .ok (bs.map encB, restB ρ1 (En s') vs) ∧ I (k + L.length) s' ∧ bs.length = L.length ∧ ∀ (i : Nat) (a : α) (b : β), L[i]? = some a → bs[i]? = some b → R a b := by
  obtain ⟨bs, s', q1, q2, q3, q4⟩ := lcGo_st (vs := vs) (tg := tg) (te := te) I En enc encB R L k s [] hI h (by simpa using hz)
  refine ⟨bs, s', ?_, q2, q3, q4⟩
  unfold oLc
  rw [hit, Rs.ok_bind]
  simp only [hno, if_true]
  rw [h0, q1]
  rfl
theorem forGo_rel {S : Type} {body : List B → Fl} (Rel : S → List B → Prop) (enc : α → D) (step : S → α → S) : ∀ (L : List α) (s : S) (ρ : List B), Rel s ρ →
    (∀ a ∈ L, ∀ s ρ, Rel s ρ → ∃ as ρ', tg (enc a) = some as ∧ body (putB ρ as) = .nx ρ' ∧ Rel (step s a) ρ') → ∃ ρ', forGo tg body (L.map enc) ρ = .nx ρ' ∧ Rel (L.foldl step s) ρ'
  | [], s, ρ, h, _ => ⟨ρ, by simp [forGo], h⟩
  | a :: L, s, ρ, h, hb => by
    obtain ⟨as, ρ', h1, h2, h3⟩ := hb a List.mem_cons_self s ρ h
    obtain ⟨ρ2, q1, q2⟩ := forGo_rel Rel enc step L (step s a) ρ' h3 fun b hb' => hb b (List.mem_cons_of_mem _ hb')
    refine ⟨ρ2, ?_, q2⟩
    rw [List.map_cons]
    unfold forGo
    rw [h1]
    simp only [h2]
    exact q1
end
theorem forGo_n {α : Type} {tg : D → Option (List (Nat × D))} {S : Type} {body : List B → Fl} (Rel : Nat → S → List B → Prop) (enc : α → D) (step : S → α → S) : ∀ (L : List α) (k : Nat) (s : S) (ρ : List B), Rel k s ρ →
    (∀ a ∈ L, ∀ j s ρ, j < k + L.length → Rel j s ρ → ∃ as ρ', tg (enc a) = some as ∧ body (putB ρ as) = .nx ρ' ∧ Rel (j + 1) (step s a) ρ') → ∃ ρ', forGo tg body (L.map enc) ρ = .nx ρ' ∧ Rel (k + L.length) (L.foldl step s) ρ'
  | [], k, s, ρ, h, _ => ⟨ρ, by simp [forGo], h⟩
  | a :: L, k, s, ρ, h, hb => by
    obtain ⟨as, ρ', h1, h2, h3⟩ := hb a List.mem_cons_self k s ρ (by simp) h
    obtain ⟨ρ2, q1, q2⟩ := forGo_n Rel enc step L (k + 1) (step s a) ρ' h3 fun b hb' j s ρ hj => hb b (List.mem_cons_of_mem _ hb') j s ρ (by simp; omega)
    refine ⟨ρ2, ?_, by rw [List.length_cons, show k + (L.length + 1) = k + 1 + L.length by omega]; exact q2⟩
    rw [List.map_cons]
    unfold forGo
    rw [h1]
    simp only [h2]
    exact q1
theorem zipD_map {α β : Type} (f : α → D) (g : β → D) : ∀ (L : List α) (M : List β), zipD (L.map f) (M.map g) = (L.zip M).map fun p => .tup [f p.1, g p.2]
  | [], M => by cases M <;> rfl
  | a :: L, [] => rfl
  | a :: L, b :: M => by
    show D.tup [f a, g b] :: zipD (L.map f) (M.map g) = _
    rw [zipD_map f g L M]
    rfl
theorem enumD_map {α : Type} (f : α → D) : ∀ (L : List α) (k : Nat), enumD k (L.map f) = (L.zipIdx k).map fun p => .tup [.int (p.2 : Int), f p.1]
  | [], k => rfl
  | a :: L, k => by
    show D.tup [.int (k : Int), f a] :: enumD (k + 1) (L.map f) = _
    rw [enumD_map f L (k + 1)]
    rfl
mutual
theorem eqv_refl : ∀ d : PyData, (PyData.canLay0 d = true) → PyData.eqv d d = true
  | .none, _ => rfl
  | .bool b, _ => by simp [PyData.eqv]
  | .int i, _ => by simp [PyData.eqv]
  | .str x, _ => by simp [PyData.eqv]
  | .list xs, h => by simp only [PyData.eqv]; exact eqvAll_refl xs (by simpa [PyData.canLay0] using h)
  | .tuple xs, h => by simp only [PyData.eqv]; exact eqvAll_refl xs (by simpa [PyData.canLay0] using h)
  | .dict _, h => by simp [PyData.canLay0] at h
theorem eqvAll_refl : ∀ ds : List PyData, (PyData.canLayAll0 ds = true) → PyData.eqvAll ds ds = true
  | [], _ => rfl
  | d :: ds, h => by
    simp only [PyData.canLayAll0, Bool.and_eq_true] at h
    simp [PyData.eqvAll, eqv_refl d h.1, eqvAll_refl ds h.2]
end
theorem call_of {n m : Nat} {g : List B → Fl} {args ρ' r : List B} {d : D} (hl : args.length = n) (hg : g (args ++ List.replicate m .un) = .rt d ρ') (hm : mergeB args ρ' = some r) : noX (fnSem n m g args) = .ok (d, r) := by
  unfold fnSem
  rw [if_pos hl, hg]
  simp only [hm, ofO_some, Rs.ok_bind, noX_ok]
theorem call_nx {n m : Nat} {g : List B → Fl} {args ρ' r : List B} (hl : args.length = n) (hg : g (args ++ List.replicate m .un) = .nx ρ') (hm : mergeB args ρ' = some r) : noX (fnSem n m g args) = .ok (.non, r) := by
  unfold fnSem
  rw [if_pos hl, hg]
  simp only [hm, ofO_some, Rs.ok_bind, noX_ok]
theorem seq_nx {F G : List B → Fl} {ρ ρ1 : List B} (h : F ρ = .nx ρ1) : sSeq F G ρ = G ρ1 := by unfold sSeq; rw [h]
mutual
def smallD : D → Bool
  | .non => true
  | .bl _ => true
  | .int i => decide (i.natAbs ≤ 999999999999)
  | .str _ => false
  | .tup ds => smallDs ds
  | .lst ds => smallDs ds
def smallDs : List D → Bool
  | [] => true
  | d :: ds => smallD d && smallDs ds
end
mutual
def nodes : D → Nat
  | .tup ds => nodesL ds + 1
  | .lst ds => nodesL ds + 1
  | _ => 1
def nodesL : List D → Nat
  | [] => 0
  | d :: ds => nodes d + nodesL ds
end
mutual
theorem small_w : ∀ d : D, smallD d = true → (dP d).canLay0 = true ∧ (dP d).intsShort 13 = true ∧ (dP d).showable = true ∧ (dP d).weight + 1 ≤ 42 * nodes d
  | .non, _ => ⟨rfl, rfl, rfl, by simp [dP, PyData.weight, nodes]⟩
  | .bl b, _ => ⟨rfl, rfl, rfl, by simp [dP, PyData.weight, nodes]⟩
  | .int i, h => by
    have h : i.natAbs ≤ 999999999999 := by simpa [smallD] using h
    have hl : i.natAbs.log2 < 40 := PySem.Flt.log2_lt_of (by decide) (by omega)
    refine ⟨rfl, ?_, ?_, ?_⟩
    · simp only [dP, PyData.intsShort]
      exact decide_eq_true (PyData.shown_int_le2 (by omega) (by omega))
    · simp only [dP, PyData.showable]
      exact decide_eq_true (by omega)
    · simp only [dP, PyData.weight, nodes]
      split <;> omega
  | .str x, h => by cases h
  | .tup ds, h => by
    obtain ⟨h1, h2, h3, h4⟩ := small_ws ds (by simpa [smallD] using h)
    exact ⟨by simpa [dP, PyData.canLay0] using h1, by simpa [dP, PyData.intsShort] using h2, by simpa [dP, PyData.showable] using h3, by simp only [dP, PyData.weight, nodes]; omega⟩
  | .lst ds, h => by
    obtain ⟨h1, h2, h3, h4⟩ := small_ws ds (by simpa [smallD] using h)
    exact ⟨by simpa [dP, PyData.canLay0] using h1, by simpa [dP, PyData.intsShort] using h2, by simpa [dP, PyData.showable] using h3, by simp only [dP, PyData.weight, nodes]; omega⟩
theorem small_ws : ∀ ds : List D, smallDs ds = true → PyData.canLayAll0 (dPs ds) = true ∧ PyData.intsShortAll 13 (dPs ds) = true ∧ PyData.showableAll (dPs ds) = true ∧ PyData.weightAll (dPs ds) ≤ 42 * nodesL ds
  | [], _ => ⟨rfl, rfl, rfl, by simp [dPs, PyData.weightAll, nodesL]⟩
  | d :: ds, h => by
    simp only [smallDs, Bool.and_eq_true] at h
    obtain ⟨h1, h2, h3, h4⟩ := small_w d h.1
    obtain ⟨g1, g2, g3, g4⟩ := small_ws ds h.2
    refine ⟨?_, ?_, ?_, ?_⟩
    · simp [dPs, PyData.canLayAll0, h1, g1]
    · simp [dPs, PyData.intsShortAll, h2, g2]
    · simp [dPs, PyData.showableAll, h3, g3]
    · simp only [dPs, PyData.weightAll, nodesL]; omega
end
theorem repr_small {d : D} (hs : smallD d = true) (hn : nodes d ≤ 20000) (hd : (dP d).depth < 60) : reprD d = some (.str (dP d).shown) := by
  obtain ⟨h1, h2, h3, h4⟩ := small_w d hs
  have hl : PyData.layable0 (dP d) = true := by
    unfold PyData.layable0
    simp only [h1, Bool.true_and, Bool.and_eq_true, decide_eq_true_eq]
    exact ⟨by omega, by omega⟩
  unfold reprD
  rw [if_pos ⟨h3, PyData.hasDict_of_layable hl, hd, Nat.le_trans (shown_le13 hl h2) (by rw [sizeLine_eq]; decide)⟩]
theorem repr_same {d : D} {s : D} (h : reprD d = some s) : dNe s s = some (.bl false) ∧ dEq s s = some (.bl true) := by
  unfold reprD at h
  split at h
  · cases h; simp
  · cases h
@[simp] theorem r_repr (d : D) : dRepr [d] = reprD d := rfl
theorem lay_ints (ns : List Int) : PyData.canLayAll0 (dPs (ns.map D.int)) = true ∧ PyData.depthAll (dPs (ns.map D.int)) = 0 := by
  induction ns with
  | nil => exact ⟨rfl, rfl⟩
  | cons n ns ih => simp [dPs, dP, PyData.canLayAll0, PyData.canLay0, PyData.depthAll, PyData.depth, ih]
theorem shaped_ints (ns : List Int) : SeqAt.shaped (dP (.lst (ns.map D.int))) = true := by
  simp [SeqAt.shaped, dP, PyData.canLay0, PyData.depth, lay_ints]
theorem ne_nil (ns : List Int) : dNe (.lst (ns.map D.int)) (.lst []) = some (.bl (!ns.isEmpty)) := by
  show (eqD _ _).map _ = _
  unfold eqD
  rw [if_pos ⟨shaped_ints ns, shaped_ints []⟩]
  cases ns with
  | nil => rfl
  | cons n ns => rfl
@[simp] theorem ne_tnil : dNe (.tup []) (.tup []) = some (.bl false) := by
  show (eqD (.tup []) (.tup [])).map (fun k => D.bl (!k)) = _
  unfold eqD
  rw [if_pos ⟨by decide, by decide⟩]
  rfl
theorem cut_take (ds : List D) {v : Int} (h : 0 ≤ v) : RT.cutD ds none (some v) = ds.take v.toNat := by
  unfold RT.cutD
  rw [HT.sIx_none]
  unfold HT.sIx
  simp only [if_neg (show ¬ v < 0 by omega), List.drop_zero, Nat.sub_zero]
  rcases Nat.le_total v.toNat ds.length with h | h
  · rw [Nat.min_eq_left h]
  · rw [Nat.min_eq_right h, List.take_of_length_le (Nat.le_refl _), List.take_of_length_le h]
theorem cut_drop (ds : List D) {v : Int} (h : 0 ≤ v) : RT.cutD ds (some v) none = ds.drop v.toNat := by
  unfold RT.cutD
  rw [HT.sIx_none]
  unfold HT.sIx
  simp only [if_neg (show ¬ v < 0 by omega)]
  rcases Nat.le_total v.toNat ds.length with h | h
  · rw [Nat.min_eq_left h, List.take_of_length_le (by rw [List.length_drop] <;> omega)]
  · rw [Nat.min_eq_right h, List.drop_length, List.drop_eq_nil_of_le h]
    simp
@[simp] theorem cut_t1 (ds : List D) : RT.cutD ds none (some 1) = ds.take 1 := cut_take ds (by decide)
@[simp] theorem cut_d1 (ds : List D) : RT.cutD ds (some 1) none = ds.drop 1 := cut_drop ds (by decide)
@[simp] theorem cut_l1 (ds : List D) : RT.cutD ds (some (-1)) none = ds.drop (ds.length - 1) := by
  unfold RT.cutD
  rw [HT.sIx_none]
  unfold HT.sIx
  simp only [if_pos (show (-1 : Int) < 0 by decide)]
  have e : ((-1 : Int) + (ds.length : Int)).toNat = ds.length - 1 := by omega
  rw [e, List.take_of_length_le (by rw [List.length_drop] <;> omega)]
theorem kit_NoneType_int : kitB "NoneType" "int" = some false := by decide +kernel
@[simp] theorem isi_NoneType_int : dIsi "int" .non = some (.bl false) := by show (kitB "NoneType" "int").map D.bl = _; rw [kit_NoneType_int]; rfl
theorem kit_bool_int : kitB "bool" "int" = some true := by decide +kernel
@[simp] theorem isi_bool_int (b : Bool) : dIsi "int" (.bl b) = some (.bl true) := by show (kitB "bool" "int").map D.bl = _; rw [kit_bool_int]; rfl
theorem kit_int_int : kitB "int" "int" = some true := by decide +kernel
@[simp] theorem isi_int_int (i : Int) : dIsi "int" (.int i) = some (.bl true) := by show (kitB "int" "int").map D.bl = _; rw [kit_int_int]; rfl
theorem kit_str_int : kitB "str" "int" = some false := by decide +kernel
@[simp] theorem isi_str_int (x : Str) : dIsi "int" (.str x) = some (.bl false) := by show (kitB "str" "int").map D.bl = _; rw [kit_str_int]; rfl
theorem kit_tuple_int : kitB "tuple" "int" = some false := by decide +kernel
@[simp] theorem isi_tuple_int (ds : List D) : dIsi "int" (.tup ds) = some (.bl false) := by show (kitB "tuple" "int").map D.bl = _; rw [kit_tuple_int]; rfl
theorem kit_list_int : kitB "list" "int" = some false := by decide +kernel
@[simp] theorem isi_list_int (ds : List D) : dIsi "int" (.lst ds) = some (.bl false) := by show (kitB "list" "int").map D.bl = _; rw [kit_list_int]; rfl
theorem kit_NoneType_bool : kitB "NoneType" "bool" = some false := by decide +kernel
@[simp] theorem isi_NoneType_bool : dIsi "bool" .non = some (.bl false) := by show (kitB "NoneType" "bool").map D.bl = _; rw [kit_NoneType_bool]; rfl
theorem kit_bool_bool : kitB "bool" "bool" = some true := by decide +kernel
@[simp] theorem isi_bool_bool (b : Bool) : dIsi "bool" (.bl b) = some (.bl true) := by show (kitB "bool" "bool").map D.bl = _; rw [kit_bool_bool]; rfl
theorem kit_int_bool : kitB "int" "bool" = some false := by decide +kernel
@[simp] theorem isi_int_bool (i : Int) : dIsi "bool" (.int i) = some (.bl false) := by show (kitB "int" "bool").map D.bl = _; rw [kit_int_bool]; rfl
theorem kit_str_bool : kitB "str" "bool" = some false := by decide +kernel
@[simp] theorem isi_str_bool (x : Str) : dIsi "bool" (.str x) = some (.bl false) := by show (kitB "str" "bool").map D.bl = _; rw [kit_str_bool]; rfl
theorem kit_tuple_bool : kitB "tuple" "bool" = some false := by decide +kernel
@[simp] theorem isi_tuple_bool (ds : List D) : dIsi "bool" (.tup ds) = some (.bl false) := by show (kitB "tuple" "bool").map D.bl = _; rw [kit_tuple_bool]; rfl
theorem kit_list_bool : kitB "list" "bool" = some false := by decide +kernel
@[simp] theorem isi_list_bool (ds : List D) : dIsi "bool" (.lst ds) = some (.bl false) := by show (kitB "list" "bool").map D.bl = _; rw [kit_list_bool]; rfl
theorem kit_NoneType_tuple : kitB "NoneType" "tuple" = some false := by decide +kernel
@[simp] theorem isi_NoneType_tuple : dIsi "tuple" .non = some (.bl false) := by show (kitB "NoneType" "tuple").map D.bl = _; rw [kit_NoneType_tuple]; rfl
theorem kit_bool_tuple : kitB "bool" "tuple" = some false := by decide +kernel
@[simp] theorem isi_bool_tuple (b : Bool) : dIsi "tuple" (.bl b) = some (.bl false) := by show (kitB "bool" "tuple").map D.bl = _; rw [kit_bool_tuple]; rfl
theorem kit_int_tuple : kitB "int" "tuple" = some false := by decide +kernel
@[simp] theorem isi_int_tuple (i : Int) : dIsi "tuple" (.int i) = some (.bl false) := by show (kitB "int" "tuple").map D.bl = _; rw [kit_int_tuple]; rfl
theorem kit_str_tuple : kitB "str" "tuple" = some false := by decide +kernel
@[simp] theorem isi_str_tuple (x : Str) : dIsi "tuple" (.str x) = some (.bl false) := by show (kitB "str" "tuple").map D.bl = _; rw [kit_str_tuple]; rfl
theorem kit_tuple_tuple : kitB "tuple" "tuple" = some true := by decide +kernel
@[simp] theorem isi_tuple_tuple (ds : List D) : dIsi "tuple" (.tup ds) = some (.bl true) := by show (kitB "tuple" "tuple").map D.bl = _; rw [kit_tuple_tuple]; rfl
theorem kit_list_tuple : kitB "list" "tuple" = some false := by decide +kernel
@[simp] theorem isi_list_tuple (ds : List D) : dIsi "tuple" (.lst ds) = some (.bl false) := by show (kitB "list" "tuple").map D.bl = _; rw [kit_list_tuple]; rfl
theorem kit_NoneType_list : kitB "NoneType" "list" = some false := by decide +kernel
@[simp] theorem isi_NoneType_list : dIsi "list" .non = some (.bl false) := by show (kitB "NoneType" "list").map D.bl = _; rw [kit_NoneType_list]; rfl
theorem kit_bool_list : kitB "bool" "list" = some false := by decide +kernel
@[simp] theorem isi_bool_list (b : Bool) : dIsi "list" (.bl b) = some (.bl false) := by show (kitB "bool" "list").map D.bl = _; rw [kit_bool_list]; rfl
theorem kit_int_list : kitB "int" "list" = some false := by decide +kernel
@[simp] theorem isi_int_list (i : Int) : dIsi "list" (.int i) = some (.bl false) := by show (kitB "int" "list").map D.bl = _; rw [kit_int_list]; rfl
theorem kit_str_list : kitB "str" "list" = some false := by decide +kernel
@[simp] theorem isi_str_list (x : Str) : dIsi "list" (.str x) = some (.bl false) := by show (kitB "str" "list").map D.bl = _; rw [kit_str_list]; rfl
theorem kit_tuple_list : kitB "tuple" "list" = some false := by decide +kernel
@[simp] theorem isi_tuple_list (ds : List D) : dIsi "list" (.tup ds) = some (.bl false) := by show (kitB "tuple" "list").map D.bl = _; rw [kit_tuple_list]; rfl
theorem kit_list_list : kitB "list" "list" = some true := by decide +kernel
@[simp] theorem isi_list_list (ds : List D) : dIsi "list" (.lst ds) = some (.bl true) := by show (kitB "list" "list").map D.bl = _; rw [kit_list_list]; rfl
theorem kit_NoneType_str : kitB "NoneType" "str" = some false := by decide +kernel
@[simp] theorem isi_NoneType_str : dIsi "str" .non = some (.bl false) := by show (kitB "NoneType" "str").map D.bl = _; rw [kit_NoneType_str]; rfl
theorem kit_bool_str : kitB "bool" "str" = some false := by decide +kernel
@[simp] theorem isi_bool_str (b : Bool) : dIsi "str" (.bl b) = some (.bl false) := by show (kitB "bool" "str").map D.bl = _; rw [kit_bool_str]; rfl
theorem kit_int_str : kitB "int" "str" = some false := by decide +kernel
@[simp] theorem isi_int_str (i : Int) : dIsi "str" (.int i) = some (.bl false) := by show (kitB "int" "str").map D.bl = _; rw [kit_int_str]; rfl
theorem kit_str_str : kitB "str" "str" = some true := by decide +kernel
@[simp] theorem isi_str_str (x : Str) : dIsi "str" (.str x) = some (.bl true) := by show (kitB "str" "str").map D.bl = _; rw [kit_str_str]; rfl
theorem kit_tuple_str : kitB "tuple" "str" = some false := by decide +kernel
@[simp] theorem isi_tuple_str (ds : List D) : dIsi "str" (.tup ds) = some (.bl false) := by show (kitB "tuple" "str").map D.bl = _; rw [kit_tuple_str]; rfl
theorem kit_list_str : kitB "list" "str" = some false := by decide +kernel
@[simp] theorem isi_list_str (ds : List D) : dIsi "str" (.lst ds) = some (.bl false) := by show (kitB "list" "str").map D.bl = _; rw [kit_list_str]; rfl
end RT
namespace My
open PySem PySem.Spec PyProof.Rows L2 RT
def topS (i : Nat) : Stmt := PySem.Challenge.pw_readintime_k59_whole_waiting_lines.main.body.getD i (.Pass ⟨0, 0, 0, 0⟩)
abbrev s__law_cells : Stmt := topS 45
def g__law_cells : List B → Fl :=
  (sRet (eO (oRg1 (eBlt dMax (aCons (eC (.int 1)) (aCons (eBlt dMin (aCons (eSlot 1) (aCons (eBlt dLen (aCons (eSlot 0) aNil)) aNil))) aNil))))))
def F__law_cells : FS := fun a => noX (fnSem 2 0 g__law_cells a)
theorem sc__law_cells : FnScope ["script", "most"] ["script", "most"] (defScope s__law_cells) := ⟨rfl, rfl, rfl, by decide +kernel, rfl, by decide +kernel, by decide +kernel⟩
theorem ok__law_cells {P : Program} {w : World} {K : PySem.W.Frag} {mg : PySem.Str → Option Value} {base : Heap} {f : Addr} {fd : FuncData} (m_len : mg "len" = none) (m_list : mg "list" = none) (m_max : mg "max" = none) (m_min : mg "min" = none) (m_range : mg "range" = none)
    (F : FunD K "_law_cells" "_law_cells" (defArgs s__law_cells) (defBody s__law_cells) (defScope s__law_cells) [] [] f fd) : FnG P w K mg base CX0 (0 + 1) f fd ["script", "most"] (spF K mg F__law_cells) := by
  have nd := sc__law_cells.nd
  exact FnG.of_body F sc__law_cells rfl rfl fun cdv A outer s H E hr hgd =>
    (sss_one (ss_ret (ev_o (eo_listRg1 rfl rfl m_list rfl m_range (ev_blt (w1 := false) (cr_maxA rfl) cd_max (av_cons ev_int (av_cons (ev_blt (w1 := false) (cr_minA rfl) cd_min (av_cons (ev_slot 1) (av_cons (ev_blt (w1 := false) cr_len cd_len (av_cons (ev_slot 0) av_nil) rfl m_len) av_nil)) rfl m_min) av_nil)) rfl m_max)))))
abbrev s__law_pot : Stmt := topS 42
def g__law_pot : List B → Fl :=
  (sSeq (sSet 2 (eIf (bV (eOp dLt (eSlot 1) (eBlt dLen (aCons (eSlot 0) aNil)))) (eOp dIx (eSlot 0) (eSlot 1)) (eOp dAdd (eOp dAdd (eOp dMod (eBlt dSum (aCons (eSl (eSlot 0) oNo (oAt (eC (.int 1)))) aNil)) (eC (.int 1000357))) (eOp dMul (eC (.int 4871)) (eSlot 1))) (eC (.int 773))))) (sSeq (sSet 3 (eOp dMul (eOp dMod (eBlt dInt (aCons (eBlt dAbs (aCons (eSlot 2) aNil)) aNil)) (eOp dPow (eOp dPow (eC (.int 10)) (eC (.int 60))) (eC (.int 5)))) (eBlt dInt (aCons (eOp dGe (eBlt dAbs (aCons (eSlot 2) aNil)) (eOp dPow (eC (.int 10)) (eC (.int 18)))) aNil)))) (sSeq (sSet 4 (eOp dMod (eBlt dInt (aCons (eSlot 2) aNil)) (eC (.int 2305843009213693951)))) (sRetO (oLst (aCons (eSlot 3) (aCons (eOp dMod (eBlt dInt (aCons (eOp dAdd (eOp dAdd (eOp dMul (eSlot 4) (eC (.int 64613))) (eOp dMul (eOp dMul (eC (.int 7013)) (eSlot 1)) (eSlot 1))) (eC (.int 929))) aNil)) (eC (.int 2305843009213693921))) (aCons (eC (.int 0)) aNil))))))))
def F__law_pot : FSO := fnSemO 2 3 g__law_pot
theorem sc__law_pot : FnScope ["script", "place", "cell", "own", "small"] ["script", "place"] (defScope s__law_pot) := ⟨rfl, rfl, rfl, by decide +kernel, rfl, by decide +kernel, by decide +kernel⟩
theorem ok__law_pot {P : Program} {w : World} {K : PySem.W.Frag} {mg : PySem.Str → Option Value} {base : Heap} {f : Addr} {fd : FuncData} (m_abs : mg "abs" = none) (m_int : mg "int" = none) (m_len : mg "len" = none) (m_sum : mg "sum" = none)
    (F : FunD K "_law_pot" "_law_pot" (defArgs s__law_pot) (defBody s__law_pot) (defScope s__law_pot) [] [] f fd) : FnG P w K mg base CX0 (0 + 1) f fd ["script", "place"] (spFO K F__law_pot) := by
  have nd := sc__law_pot.nd
  exact FnG.of_bodyO F sc__law_pot rfl rfl fun cdv A outer s H E hr hgd =>
    (sss_cons (ss_set 2 (ev_if (tv_cmp (w1 := false) (w2 := false) op_lt od_lt (ev_slot 1) (ev_blt (w1 := false) cr_len cd_len (av_cons (ev_slot 0) av_nil) rfl m_len) (nomark _)) (ev_ix (w1 := false) (w2 := false) (ev_slot 0) (ev_slot 1)) (ev_op (w1 := false) (w2 := false) op_addA od_add (ev_op (w1 := false) (w2 := false) op_addA od_add (ev_op (w1 := false) (w2 := false) op_mod od_mod (ev_blt (w1 := false) (cr_sum rfl) cd_sum (av_cons (ev_sl (w1 := false) (ev_slot 0) ov_no (ov_at (w := false) ev_int)) av_nil) rfl m_sum) ev_int) (ev_op (w1 := false) (w2 := false) op_mulW od_mul ev_int (ev_slot 1))) ev_int)) nd) (sss_cons (ss_set 3 (ev_op (w1 := false) (w2 := false) op_mulW od_mul (ev_op (w1 := false) (w2 := false) op_mod od_mod (ev_ty (w1 := false) call_int1 cd_int (av_cons (ev_blt (w1 := false) call_abs cd_abs (av_cons (ev_slot 2) av_nil) rfl m_abs) av_nil) rfl m_int) (ev_op (w1 := false) (w2 := false) op_powW od_pow (ev_op (w1 := false) (w2 := false) op_powW od_pow ev_int ev_int) ev_int)) (ev_ty (w1 := false) call_int1 cd_int (av_cons (ev_cmp (w1 := false) (w2 := false) op_ge od_ge (ev_blt (w1 := false) call_abs cd_abs (av_cons (ev_slot 2) av_nil) rfl m_abs) (ev_op (w1 := false) (w2 := false) op_powW od_pow ev_int ev_int) (nomark _)) av_nil) rfl m_int)) nd) (sss_cons (ss_set 4 (ev_op (w1 := false) (w2 := false) op_mod od_mod (ev_ty (w1 := false) call_int1 cd_int (av_cons (ev_slot 2) av_nil) rfl m_int) ev_int) nd) (sss_one (ss_retO (eo_lst (av_cons (ev_slot 3) (av_cons (ev_op (w1 := false) (w2 := false) op_mod od_mod (ev_ty (w1 := false) call_int1 cd_int (av_cons (ev_op (w1 := false) (w2 := false) op_addA od_add (ev_op (w1 := false) (w2 := false) op_addA od_add (ev_op (w1 := false) (w2 := false) op_mulW od_mul (ev_slot 4) ev_int) (ev_op (w1 := false) (w2 := false) op_mulW od_mul (ev_op (w1 := false) (w2 := false) op_mulW od_mul ev_int (ev_slot 1)) (ev_slot 1))) ev_int) av_nil) rfl m_int) ev_int) (av_cons ev_int av_nil)))))))))
abbrev s__law_take : Stmt := topS 43
def g__law_take : List B → Fl :=
  (sSeq (sIf (bV (eOp dGt (eOp dIx (eSlotW 0) (eC (.int 0))) (eC (.int 0)))) (sSeq (sSet 2 (eOp dMod (eBlt dInt (aCons (eOp dIx (eSlotW 0) (eC (.int 0))) aNil)) (eSlot 1))) (sSeq (sPut 0 (eC (.int 0)) (eOp dDiv (eOp dIx (eSlotW 0) (eC (.int 0))) (eSlot 1))) (sRet (eSlot 2)))) sNx) (sSeq (sPut 0 (eC (.int 2)) (eOp dAdd (eOp dIx (eSlotW 0) (eC (.int 2))) (eC (.int 1)))) (sSeq (sSet 3 (eOp dIx (eO (oLst (aCons (eC (.int 2147482063)) (aCons (eC (.int 2147482051)) (aCons (eC (.int 2147482021)) (aCons (eC (.int 2147481997)) (aCons (eC (.int 2147481967)) aNil))))))) (eOp dMod (eBlt dInt (aCons (eOp dIx (eSlotW 0) (eC (.int 2))) aNil)) (eC (.int 5))))) (sSeq (sSet 4 (eOp dMod (eBlt dInt (aCons (eOp dPow (eBlt dInt (aCons (eOp dAdd (eOp dAdd (eOp dIx (eSlotW 0) (eC (.int 1))) (eOp dMul (eOp dMul (eC (.int 70501)) (eOp dIx (eSlotW 0) (eC (.int 2)))) (eOp dIx (eSlotW 0) (eC (.int 2))))) (eC (.int 2203))) aNil)) (eC (.int 3))) aNil)) (eSlot 3))) (sSeq (sSet 4 (eOp dMod (eBlt dInt (aCons (eOp dMul (eSlot 4) (eOp dAdd (eOp dMod (eBlt dInt (aCons (eSlot 4) aNil)) (eC (.int 7907))) (eOp dMul (eC (.int 241)) (eOp dIx (eSlotW 0) (eC (.int 2)))))) aNil)) (eC (.int 2305843009213693907)))) (sRet (eOp dMod (eBlt dInt (aCons (eOp dDiv (eSlot 4) (eC (.int 149))) aNil)) (eSlot 1))))))))
def F__law_take : FS := fun a => noX (fnSem 2 3 g__law_take a)
theorem sc__law_take : FnScope ["pot", "upto", "digit", "prime", "blend"] ["pot", "upto"] (defScope s__law_take) := ⟨rfl, rfl, rfl, by decide +kernel, rfl, by decide +kernel, by decide +kernel⟩
theorem ok__law_take {P : Program} {w : World} {K : PySem.W.Frag} {mg : PySem.Str → Option Value} {base : Heap} {f : Addr} {fd : FuncData} (m_int : mg "int" = none)
    (F : FunD K "_law_take" "_law_take" (defArgs s__law_take) (defBody s__law_take) (defScope s__law_take) [] [] f fd) : FnG P w K mg base CX0 (0 + 1) f fd ["pot", "upto"] (spF K mg F__law_take) := by
  have nd := sc__law_take.nd
  exact FnG.of_body F sc__law_take rfl rfl fun cdv A outer s H E hr hgd =>
    (sss_cons (ss_if (tv_cmp (w1 := false) (w2 := false) op_gt od_gt (ev_ix (w1 := true) (w2 := false) (ev_slotW 0) ev_int) ev_int (nomark _)) (sss_cons (ss_set 2 (ev_op (w1 := false) (w2 := false) op_mod od_mod (ev_ty (w1 := false) call_int1 cd_int (av_cons (ev_ix (w1 := true) (w2 := false) (ev_slotW 0) ev_int) av_nil) rfl m_int) (ev_slot 1)) nd) (sss_cons (ss_put 0 ev_int (ev_op (w1 := false) (w2 := false) op_fdivW od_div (ev_ix (w1 := true) (w2 := false) (ev_slotW 0) ev_int) (ev_slot 1))) (sss_one (ss_ret (ev_slot 2))))) sss_nil) (sss_cons (ss_put 0 ev_int (ev_op (w1 := false) (w2 := false) op_addA od_add (ev_ix (w1 := true) (w2 := false) (ev_slotW 0) ev_int) ev_int)) (sss_cons (ss_set 3 (ev_ix (w1 := false) (w2 := false) (ev_o (eo_lst (av_cons ev_int (av_cons ev_int (av_cons ev_int (av_cons ev_int (av_cons ev_int av_nil))))))) (ev_op (w1 := false) (w2 := false) op_mod od_mod (ev_ty (w1 := false) call_int1 cd_int (av_cons (ev_ix (w1 := true) (w2 := false) (ev_slotW 0) ev_int) av_nil) rfl m_int) ev_int)) nd) (sss_cons (ss_set 4 (ev_op (w1 := false) (w2 := false) op_mod od_mod (ev_ty (w1 := false) call_int1 cd_int (av_cons (ev_op (w1 := false) (w2 := false) op_powW od_pow (ev_ty (w1 := false) call_int1 cd_int (av_cons (ev_op (w1 := false) (w2 := false) op_addA od_add (ev_op (w1 := false) (w2 := false) op_addA od_add (ev_ix (w1 := true) (w2 := false) (ev_slotW 0) ev_int) (ev_op (w1 := false) (w2 := false) op_mulW od_mul (ev_op (w1 := false) (w2 := false) op_mulW od_mul ev_int (ev_ix (w1 := true) (w2 := false) (ev_slotW 0) ev_int)) (ev_ix (w1 := true) (w2 := false) (ev_slotW 0) ev_int))) ev_int) av_nil) rfl m_int) ev_int) av_nil) rfl m_int) (ev_slot 3)) nd) (sss_cons (ss_set 4 (ev_op (w1 := false) (w2 := false) op_mod od_mod (ev_ty (w1 := false) call_int1 cd_int (av_cons (ev_op (w1 := false) (w2 := false) op_mulW od_mul (ev_slot 4) (ev_op (w1 := false) (w2 := false) op_addA od_add (ev_op (w1 := false) (w2 := false) op_mod od_mod (ev_ty (w1 := false) call_int1 cd_int (av_cons (ev_slot 4) av_nil) rfl m_int) ev_int) (ev_op (w1 := false) (w2 := false) op_mulW od_mul ev_int (ev_ix (w1 := true) (w2 := false) (ev_slotW 0) ev_int)))) av_nil) rfl m_int) ev_int) nd) (sss_one (ss_ret (ev_op (w1 := false) (w2 := false) op_mod od_mod (ev_ty (w1 := false) call_int1 cd_int (av_cons (ev_op (w1 := false) (w2 := false) op_fdivW od_div (ev_slot 4) ev_int) av_nil) rfl m_int) (ev_slot 1)))))))))
abbrev s__law_live_lines : Stmt := topS 48
def g__law_live_lines : List B → Fl :=
  (sSeq (sSet 3 (eO (oBlt dSorted (aCons (eO (oLc [4] (iRange1 (eCallB 0 F__law_take (aCons (eOp dAdd (eSlot 2) (eC (.int 1))) aNil))) (gN 4) bYes (eCallB 0 F__law_take (aCons (eOp dIx (eSlot 1) (eC (.int 0))) aNil)))) aNil)))) (sRet (eBlt dTuple (aCons (eO (oLc [5] (iSeq (eSlot 3)) (gN 5) bYes (eTup (aCons (eSlot 5) (aCons (eOp dAdd (eOp dAdd (eSlot 5) (eC (.int 1))) (eCallB 0 F__law_take (aCons (eBlt dMin (aCons (eC (.int 9)) (aCons (eOp dSub (eOp dIx (eSlot 1) (eC (.int 0))) (eSlot 5)) aNil))) aNil))) (aCons (eOp dAdd (eC (.int 1)) (eCallB 0 F__law_take (aCons (eC (.int 9)) aNil))) aNil)))))) aNil))))
def F__law_live_lines : FS := fun a => noX (fnSem 3 3 g__law_live_lines a)
theorem sc__law_live_lines : FnScope ["pot", "film", "many", "starts", "number", "start"] ["pot", "film", "many"] (defScope s__law_live_lines) := ⟨rfl, rfl, rfl, by decide +kernel, rfl, by decide +kernel, by decide +kernel⟩
theorem ok__law_live_lines {P : Program} {w : World} {K : PySem.W.Frag} {mg : PySem.Str → Option Value} {base : Heap} {f : Addr} {fd : FuncData} (m_min : mg "min" = none) (m_range : mg "range" = none) (m_sorted : mg "sorted" = none) (m_tuple : mg "tuple" = none) (C__law_take : Cal P w K mg base 1 "_law_take" 2 F__law_take)
    (F : FunD K "_law_live_lines" "_law_live_lines" (defArgs s__law_live_lines) (defBody s__law_live_lines) (defScope s__law_live_lines) [] [] f fd) : FnG P w K mg base CX0 (1 + 1) f fd ["pot", "film", "many"] (spF K mg F__law_live_lines) := by
  have nd := sc__law_live_lines.nd
  exact FnG.of_body F sc__law_live_lines rfl rfl fun cdv A outer s H E hr hgd =>
    (sss_cons (ss_set 3 (ev_o (eo_blt (w1 := false) cr_sortedI co_sorted (av_cons (ev_o (eo_lc [("number", 4)] rfl nd (iv_range1 rfl m_range (ev_callB 0 (C__law_take.mono (by decide)) hr hgd (av_cons (ev_op (w1 := false) (w2 := false) op_addA od_add (ev_slot 2) ev_int) av_nil))) (blkOk_by (by kernel_rfl)) rfl (fun _ _ _ _ _ => (gv_name 4 nd)) (fun _ _ _ _ _ => tsv_nil) (fun _ _ _ _ _ => (ev_callB 0 (C__law_take.mono (by decide)) hr hgd (av_cons (ev_ix (w1 := false) (w2 := false) (ev_slot 1) ev_int) av_nil))))) av_nil) rfl m_sorted)) nd) (sss_one (ss_ret (ev_ty (w1 := false) call_tuple_of cd_tuple (av_cons (ev_o (eo_lc [("start", 5)] rfl nd (iv_seq (w := false) (ev_slot 3)) (blkOk_by (by kernel_rfl)) rfl (fun _ _ _ _ _ => (gv_name 5 nd)) (fun _ _ _ _ _ => tsv_nil) (fun _ _ _ _ _ => (ev_tup (av_cons (ev_slot 5) (av_cons (ev_op (w1 := false) (w2 := false) op_addA od_add (ev_op (w1 := false) (w2 := false) op_addA od_add (ev_slot 5) ev_int) (ev_callB 0 (C__law_take.mono (by decide)) hr hgd (av_cons (ev_blt (w1 := false) (cr_minA rfl) cd_min (av_cons ev_int (av_cons (ev_op (w1 := false) (w2 := false) op_sub od_sub (ev_ix (w1 := false) (w2 := false) (ev_slot 1) ev_int) (ev_slot 5)) av_nil)) rfl m_min) av_nil))) (av_cons (ev_op (w1 := false) (w2 := false) op_addA od_add ev_int (ev_callB 0 (C__law_take.mono (by decide)) hr hgd (av_cons ev_int av_nil))) av_nil))))))) av_nil) rfl m_tuple))))
abbrev s__law_live : Stmt := topS 46
def g__law_live : List B → Fl :=
  (sSeq (sPar [3, 4, 5] (mOw (oLst aNil) (mVa (eC (.int 0)) (mVa (eC (.int 0)) mNil)))) (sSeq (sFor (iSeq (eSlot 0)) (gT (gsCons (gN 6) (gsCons (gN 7) (gsCons (gN 8) gsNil)))) (sSeq (sSet 4 (eBlt dMax (aCons (eSlot 4) (aCons (eOp dAdd (eSlot 7) (eSlot 1)) aNil)))) (sSeq (sSet 9 (eIf (bV (eOp dGt (eSlot 4) (eSlot 5))) (eSlot 4) (eSlot 5))) (sSeq (sDo (eApp 3 (eTup (aCons (eSlot 9) (aCons (eOp dAdd (eSlot 9) (eSlot 8)) aNil))))) (sSet 5 (eOp dAdd (eOp dAdd (eSlot 9) (eSlot 8)) (eSlot 2))))))) (sFz 3 (sRet (eSlot 3)))))
def F__law_live : FS := fun a => noX (fnSem 3 7 g__law_live a)
theorem sc__law_live : FnScope ["lines", "delay", "gap", "found", "known", "free", "start", "end", "need", "on"] ["lines", "delay", "gap"] (defScope s__law_live) := ⟨rfl, rfl, rfl, by decide +kernel, rfl, by decide +kernel, by decide +kernel⟩
theorem ok__law_live {P : Program} {w : World} {K : PySem.W.Frag} {mg : PySem.Str → Option Value} {base : Heap} {f : Addr} {fd : FuncData} (m_max : mg "max" = none)
    (F : FunD K "_law_live" "_law_live" (defArgs s__law_live) (defBody s__law_live) (defScope s__law_live) [] [] f fd) : FnG P w K mg base CX0 (0 + 1) f fd ["lines", "delay", "gap"] (spF K mg F__law_live) := by
  have nd := sc__law_live.nd
  exact FnG.of_body F sc__law_live rfl rfl fun cdv A outer s H E hr hgd =>
    (sss_cons (ss_par3 3 4 5 (mv_ow (eo_lst av_nil) (mv_va ev_int (mv_va ev_int mv_nil))) rfl nd) (sss_cons (ss_for PassesOwn.never rfl (iv_seq (w := false) (ev_slot 0)) (gv_tup rfl (gvs_cons (gv_name 6 nd) (gvs_cons (gv_name 7 nd) (gvs_cons (gv_name 8 nd) gvs_nil))) (gsCons_len (gsCons_len (gsCons_len gsNil_len)))) (sss_cons (ss_set 4 (ev_blt (w1 := false) (cr_maxA rfl) cd_max (av_cons (ev_slot 4) (av_cons (ev_op (w1 := false) (w2 := false) op_addA od_add (ev_slot 7) (ev_slot 1)) av_nil)) rfl m_max) nd) (sss_cons (ss_set 9 (ev_if (tv_cmp (w1 := false) (w2 := false) op_gt od_gt (ev_slot 4) (ev_slot 5) (nomark _)) (ev_slot 4) (ev_slot 5)) nd) (sss_cons (ss_do (w := false) (ev_app 3 (ev_tup (av_cons (ev_slot 9) (av_cons (ev_op (w1 := false) (w2 := false) op_addA od_add (ev_slot 9) (ev_slot 8)) av_nil))))) (sss_one (ss_set 5 (ev_op (w1 := false) (w2 := false) op_addA od_add (ev_op (w1 := false) (w2 := false) op_addA od_add (ev_slot 9) (ev_slot 8)) (ev_slot 2)) nd)))))) (sss_one (ss_fz 3 (ss_ret (ev_slot 3))))))
abbrev s__law_lags : Stmt := topS 49
def g__law_lags : List B → Fl :=
  (sRet (eO (oLc [3, 4] (iZip' (eSlot 0) (eCall F__law_live (aCons (eSlot 0) (aCons (eSlot 1) (aCons (eSlot 2) aNil))))) (gT (gsCons (gN 3) (gsCons (gN 4) gsNil))) bYes (eOp dSub (eOp dIx (eSlot 4) (eC (.int 0))) (eOp dIx (eSlot 3) (eC (.int 0)))))))
def F__law_lags : FS := fun a => noX (fnSem 3 2 g__law_lags a)
theorem sc__law_lags : FnScope ["lines", "delay", "gap", "line", "show"] ["lines", "delay", "gap"] (defScope s__law_lags) := ⟨rfl, rfl, rfl, by decide +kernel, rfl, by decide +kernel, by decide +kernel⟩
theorem ok__law_lags {P : Program} {w : World} {K : PySem.W.Frag} {mg : PySem.Str → Option Value} {base : Heap} {f : Addr} {fd : FuncData} (m_zip : mg "zip" = none) (C__law_live : Cal P w K mg base 1 "_law_live" 3 F__law_live)
    (F : FunD K "_law_lags" "_law_lags" (defArgs s__law_lags) (defBody s__law_lags) (defScope s__law_lags) [] [] f fd) : FnG P w K mg base CX0 (1 + 1) f fd ["lines", "delay", "gap"] (spF K mg F__law_lags) := by
  have nd := sc__law_lags.nd
  exact FnG.of_body F sc__law_lags rfl rfl fun cdv A outer s H E hr hgd =>
    (sss_one (ss_ret (ev_o (eo_lc [("line", 3), ("show", 4)] rfl nd (iv_zip (w1 := false) (w2 := false) rfl m_zip (ev_slot 0) (ev_call (C__law_live.mono (by decide)) hr hgd (av_cons (ev_slot 0) (av_cons (ev_slot 1) (av_cons (ev_slot 2) av_nil))))) (blkOk_by (by kernel_rfl)) rfl (fun _ _ _ _ _ => (gv_tup rfl (gvs_cons (gv_name 3 nd) (gvs_cons (gv_name 4 nd) gvs_nil)) (gsCons_len (gsCons_len gsNil_len)))) (fun _ _ _ _ _ => tsv_nil) (fun _ _ _ _ _ => (ev_op (w1 := false) (w2 := false) op_sub od_sub (ev_ix (w1 := false) (w2 := false) (ev_slot 4) ev_int) (ev_ix (w1 := false) (w2 := false) (ev_slot 3) ev_int)))))))
abbrev s_is_integer : Stmt := topS 10
def g_is_integer : List B → Fl :=
  (sRet (eAnd (eUn (dIsi "int") (eSlot 0)) (eNot (eUn (dIsi "bool") (eSlot 0)))))
def F_is_integer : FS := fun a => noX (fnSem 1 0 g_is_integer a)
theorem sc_is_integer : FnScope ["value"] ["value"] (defScope s_is_integer) := ⟨rfl, rfl, rfl, by decide +kernel, rfl, by decide +kernel, by decide +kernel⟩
theorem ok_is_integer {P : Program} {w : World} {K : PySem.W.Frag} {mg : PySem.Str → Option Value} {base : Heap} {f : Addr} {fd : FuncData} (m_bool : mg "bool" = none) (m_int : mg "int" = none) (m_isinstance : mg "isinstance" = none)
    (F : FunD K "is_integer" "is_integer" (defArgs s_is_integer) (defBody s_is_integer) (defScope s_is_integer) [] [] f fd) : FnG P w K mg base CX0 (0 + 1) f fd ["value"] (spF K mg F_is_integer) := by
  have nd := sc_is_integer.nd
  exact FnG.of_body F sc_is_integer rfl rfl fun cdv A outer s H E hr hgd =>
    (sss_one (ss_ret (ev_and (w1 := false) (ev_isi (w1 := false) "int" (ev_slot 0) rfl m_isinstance rfl m_int) (ev_one (ev_not (w1 := false) (ev_isi (w1 := false) "bool" (ev_slot 0) rfl m_isinstance rfl m_bool))))))
abbrev s_is_between : Stmt := topS 11
def g_is_between : List B → Fl :=
  (sRet (eAnd (eCall F_is_integer (aCons (eSlot 0) aNil)) (eChain dLe dLe (eSlot 1) (eSlot 0) (eSlot 2))))
def F_is_between : FS := fun a => noX (fnSem 3 0 g_is_between a)
theorem sc_is_between : FnScope ["value", "low", "high"] ["value", "low", "high"] (defScope s_is_between) := ⟨rfl, rfl, rfl, by decide +kernel, rfl, by decide +kernel, by decide +kernel⟩
theorem ok_is_between {P : Program} {w : World} {K : PySem.W.Frag} {mg : PySem.Str → Option Value} {base : Heap} {f : Addr} {fd : FuncData} (C_is_integer : Cal P w K mg base 1 "is_integer" 1 F_is_integer)
    (F : FunD K "is_between" "is_between" (defArgs s_is_between) (defBody s_is_between) (defScope s_is_between) [] [] f fd) : FnG P w K mg base CX0 (1 + 1) f fd ["value", "low", "high"] (spF K mg F_is_between) := by
  have nd := sc_is_between.nd
  exact FnG.of_body F sc_is_between rfl rfl fun cdv A outer s H E hr hgd =>
    (sss_one (ss_ret (ev_and (w1 := false) (ev_call (C_is_integer.mono (by decide)) hr hgd (av_cons (ev_slot 0) av_nil)) (ev_one (ev_chain (w2 := false) op_le od_le op_le od_le (ev_slot 1) (ev_slot 0) (ev_slot 2))))))
abbrev s_are_between : Stmt := topS 12
def g_are_between : List B → Fl :=
  (sRet (eAnd (eUn (dIsi "tuple") (eSlot 0)) (eBlt dAll (aCons (eO (oLc [3] (iSeq (eSlot 0)) (gN 3) bYes (eCall F_is_between (aCons (eSlot 3) (aCons (eSlot 1) (aCons (eSlot 2) aNil)))))) aNil))))
def F_are_between : FS := fun a => noX (fnSem 3 1 g_are_between a)
theorem sc_are_between : FnScope ["value", "low", "high", "one"] ["value", "low", "high"] (defScope s_are_between) := ⟨rfl, rfl, rfl, by decide +kernel, rfl, by decide +kernel, by decide +kernel⟩
theorem ok_are_between {P : Program} {w : World} {K : PySem.W.Frag} {mg : PySem.Str → Option Value} {base : Heap} {f : Addr} {fd : FuncData} (m_all : mg "all" = none) (m_isinstance : mg "isinstance" = none) (m_tuple : mg "tuple" = none) (C_is_between : Cal P w K mg base 2 "is_between" 3 F_is_between)
    (F : FunD K "are_between" "are_between" (defArgs s_are_between) (defBody s_are_between) (defScope s_are_between) [] [] f fd) : FnG P w K mg base CX0 (2 + 1) f fd ["value", "low", "high"] (spF K mg F_are_between) := by
  have nd := sc_are_between.nd
  exact FnG.of_body F sc_are_between rfl rfl fun cdv A outer s H E hr hgd =>
    (sss_one (ss_ret (ev_and (w1 := false) (ev_isi (w1 := false) "tuple" (ev_slot 0) rfl m_isinstance rfl m_tuple) (ev_one (ev_blt (w1 := false) (cr_all rfl) cd_all (av_cons (ev_o (eo_lc [("one", 3)] rfl nd (iv_seq (w := false) (ev_slot 0)) (blkOk_by (by kernel_rfl)) rfl (fun _ _ _ _ _ => (gv_name 3 nd)) (fun _ _ _ _ _ => tsv_nil) (fun _ _ _ _ _ => (ev_call (C_is_between.mono (by decide)) hr hgd (av_cons (ev_slot 3) (av_cons (ev_slot 1) (av_cons (ev_slot 2) av_nil))))))) av_nil) rfl m_all)))))
abbrev s_is_ascending : Stmt := topS 13
def g_is_ascending : List B → Fl :=
  (sRet (eBlt dAll (aCons (eO (oLc [1, 2] (iZip' (eSlot 0) (eSl (eSlot 0) (oAt (eC (.int 1))) oNo)) (gT (gsCons (gN 1) (gsCons (gN 2) gsNil))) bYes (eOp dLt (eSlot 1) (eSlot 2)))) aNil)))
def F_is_ascending : FS := fun a => noX (fnSem 1 2 g_is_ascending a)
theorem sc_is_ascending : FnScope ["items", "one", "other"] ["items"] (defScope s_is_ascending) := ⟨rfl, rfl, rfl, by decide +kernel, rfl, by decide +kernel, by decide +kernel⟩
theorem ok_is_ascending {P : Program} {w : World} {K : PySem.W.Frag} {mg : PySem.Str → Option Value} {base : Heap} {f : Addr} {fd : FuncData} (m_all : mg "all" = none) (m_zip : mg "zip" = none)
    (F : FunD K "is_ascending" "is_ascending" (defArgs s_is_ascending) (defBody s_is_ascending) (defScope s_is_ascending) [] [] f fd) : FnG P w K mg base CX0 (0 + 1) f fd ["items"] (spF K mg F_is_ascending) := by
  have nd := sc_is_ascending.nd
  exact FnG.of_body F sc_is_ascending rfl rfl fun cdv A outer s H E hr hgd =>
    (sss_one (ss_ret (ev_blt (w1 := false) (cr_all rfl) cd_all (av_cons (ev_o (eo_lc [("one", 1), ("other", 2)] rfl nd (iv_zip (w1 := false) (w2 := false) rfl m_zip (ev_slot 0) (ev_sl (w1 := false) (ev_slot 0) (ov_at (w := false) ev_int) ov_no)) (blkOk_by (by kernel_rfl)) rfl (fun _ _ _ _ _ => (gv_tup rfl (gvs_cons (gv_name 1 nd) (gvs_cons (gv_name 2 nd) gvs_nil)) (gsCons_len (gsCons_len gsNil_len)))) (fun _ _ _ _ _ => tsv_nil) (fun _ _ _ _ _ => (ev_cmp (w1 := false) (w2 := false) op_lt od_lt (ev_slot 1) (ev_slot 2) (nomark _))))) av_nil) rfl m_all)))
abbrev s_is_film : Stmt := topS 19
def g_is_film : List B → Fl :=
  (sSeq (sIf (bOr (bNot (bV (eUn (dIsi "tuple") (eSlot 0)))) (bOr (bV (eOp dNe (eBlt dLen (aCons (eSlot 0) aNil)) (eC (.int 2)))) (bNot (bV (eCall F_is_between (aCons (eOp dIx (eSlot 0) (eC (.int 0))) (aCons (eC (.int 1)) (aCons (eC (.int 400)) aNil)))))))) (sRet (eC (.bl false))) sNx) (sRet (eAnd (eCall F_are_between (aCons (eOp dIx (eSlot 0) (eC (.int 1))) (aCons (eC (.int 1)) (aCons (eOp dSub (eOp dIx (eSlot 0) (eC (.int 0))) (eC (.int 1))) aNil)))) (eCall F_is_ascending (aCons (eOp dIx (eSlot 0) (eC (.int 1))) aNil)))))
def F_is_film : FS := fun a => noX (fnSem 1 0 g_is_film a)
theorem sc_is_film : FnScope ["value"] ["value"] (defScope s_is_film) := ⟨rfl, rfl, rfl, by decide +kernel, rfl, by decide +kernel, by decide +kernel⟩
theorem ok_is_film {P : Program} {w : World} {K : PySem.W.Frag} {mg : PySem.Str → Option Value} {base : Heap} {f : Addr} {fd : FuncData} (m_isinstance : mg "isinstance" = none) (m_len : mg "len" = none) (m_tuple : mg "tuple" = none) (g_MOST_TICK : ∃ t, mg "MOST_TICK" = some (.int 400 t)) (C_is_between : Cal P w K mg base 2 "is_between" 3 F_is_between) (C_are_between : Cal P w K mg base 3 "are_between" 3 F_are_between) (C_is_ascending : Cal P w K mg base 1 "is_ascending" 1 F_is_ascending)
    (F : FunD K "is_film" "is_film" (defArgs s_is_film) (defBody s_is_film) (defScope s_is_film) [] [] f fd) : FnG P w K mg base CX0 (3 + 1) f fd ["value"] (spF K mg F_is_film) := by
  have nd := sc_is_film.nd
  exact FnG.of_body F sc_is_film rfl rfl fun cdv A outer s H E hr hgd =>
    (sss_cons (ss_if (TW.tv (tw_or (tv_not (tv_val (w := false) (ev_isi (w1 := false) "tuple" (ev_slot 0) rfl m_isinstance rfl m_tuple))) (tw_or (tv_cmp (w1 := false) (w2 := false) (op_neA hr.units) od_ne (ev_blt (w1 := false) cr_len cd_len (av_cons (ev_slot 0) av_nil) rfl m_len) ev_int (nomark _)) (tw_or1 (tv_not (tv_val (w := false) (ev_call (C_is_between.mono (by decide)) hr hgd (av_cons (ev_ix (w1 := false) (w2 := false) (ev_slot 0) ev_int) (av_cons ev_int (av_cons (ev_gint rfl g_MOST_TICK) av_nil)))))))))) (sss_one (ss_ret ev_bl)) sss_nil) (sss_one (ss_ret (ev_and (w1 := false) (ev_call (C_are_between.mono (by decide)) hr hgd (av_cons (ev_ix (w1 := false) (w2 := false) (ev_slot 0) ev_int) (av_cons ev_int (av_cons (ev_op (w1 := false) (w2 := false) op_sub od_sub (ev_ix (w1 := false) (w2 := false) (ev_slot 0) ev_int) ev_int) av_nil)))) (ev_one (ev_call (C_is_ascending.mono (by decide)) hr hgd (av_cons (ev_ix (w1 := false) (w2 := false) (ev_slot 0) ev_int) av_nil)))))))
abbrev s_check_film : Stmt := topS 20
def g_check_film : List B → Fl :=
  (sIf (bNot (bV (eCall F_is_film (aCons (eSlot 0) aNil)))) (fun _ => .bad) sNx)
def F_check_film : FS := fun a => noX (fnSem 1 0 g_check_film a)
theorem sc_check_film : FnScope ["value"] ["value"] (defScope s_check_film) := ⟨rfl, rfl, rfl, by decide +kernel, rfl, by decide +kernel, by decide +kernel⟩
theorem ok_check_film {P : Program} {w : World} {K : PySem.W.Frag} {mg : PySem.Str → Option Value} {base : Heap} {f : Addr} {fd : FuncData} (C_is_film : Cal P w K mg base 4 "is_film" 1 F_is_film)
    (F : FunD K "check_film" "check_film" (defArgs s_check_film) (defBody s_check_film) (defScope s_check_film) [] [] f fd) : FnG P w K mg base CX0 (4 + 1) f fd ["value"] (spF K mg F_check_film) := by
  have nd := sc_check_film.nd
  exact FnG.of_body F sc_check_film rfl rfl fun cdv A outer s H E hr hgd =>
    (sss_one (ss_if (tv_not (tv_val (w := false) (ev_call (C_is_film.mono (by decide)) hr hgd (av_cons (ev_slot 0) av_nil)))) (sss_one ss_never) sss_nil))
abbrev s_is_line : Stmt := topS 21
def g_is_line : List B → Fl :=
  (sSeq (sIf (bOr (bNot (bV (eCall F_are_between (aCons (eSlot 1) (aCons (eC (.int 0)) (aCons (eC (.int 400)) aNil)))))) (bV (eOp dNe (eBlt dLen (aCons (eSlot 1) aNil)) (eC (.int 3))))) (sRet (eC (.bl false))) sNx) (sRet (eAnd (eChain dLt dLe (eOp dIx (eSlot 1) (eC (.int 0))) (eOp dIx (eSlot 1) (eC (.int 1))) (eSlot 0)) (eOp dGt (eOp dIx (eSlot 1) (eC (.int 2))) (eC (.int 0))))))
def F_is_line : FS := fun a => noX (fnSem 2 0 g_is_line a)
theorem sc_is_line : FnScope ["length", "value"] ["length", "value"] (defScope s_is_line) := ⟨rfl, rfl, rfl, by decide +kernel, rfl, by decide +kernel, by decide +kernel⟩
theorem ok_is_line {P : Program} {w : World} {K : PySem.W.Frag} {mg : PySem.Str → Option Value} {base : Heap} {f : Addr} {fd : FuncData} (m_len : mg "len" = none) (g_MOST_TICK : ∃ t, mg "MOST_TICK" = some (.int 400 t)) (g_THREE : ∃ t, mg "THREE" = some (.int 3 t)) (C_are_between : Cal P w K mg base 3 "are_between" 3 F_are_between)
    (F : FunD K "is_line" "is_line" (defArgs s_is_line) (defBody s_is_line) (defScope s_is_line) [] [] f fd) : FnG P w K mg base CX0 (3 + 1) f fd ["length", "value"] (spF K mg F_is_line) := by
  have nd := sc_is_line.nd
  exact FnG.of_body F sc_is_line rfl rfl fun cdv A outer s H E hr hgd =>
    (sss_cons (ss_if (TW.tv (tw_or (tv_not (tv_val (w := false) (ev_call (C_are_between.mono (by decide)) hr hgd (av_cons (ev_slot 1) (av_cons ev_int (av_cons (ev_gint rfl g_MOST_TICK) av_nil)))))) (tw_or1 (tv_cmp (w1 := false) (w2 := false) (op_neA hr.units) od_ne (ev_blt (w1 := false) cr_len cd_len (av_cons (ev_slot 1) av_nil) rfl m_len) (ev_gint rfl g_THREE) (nomark _))))) (sss_one (ss_ret ev_bl)) sss_nil) (sss_one (ss_ret (ev_and (w1 := false) (ev_chain (w2 := false) op_lt od_lt op_le od_le (ev_ix (w1 := false) (w2 := false) (ev_slot 1) ev_int) (ev_ix (w1 := false) (w2 := false) (ev_slot 1) ev_int) (ev_slot 0)) (ev_one (ev_cmp (w1 := false) (w2 := false) op_gt od_gt (ev_ix (w1 := false) (w2 := false) (ev_slot 1) ev_int) ev_int (nomark _)))))))
abbrev s_are_lines_of : Stmt := topS 22
def g_are_lines_of : List B → Fl :=
  (sSeq (sIf (bOr (bNot (bV (eUn (dIsi "tuple") (eSlot 1)))) (bOr (bV (eOp dGt (eBlt dLen (aCons (eSlot 1) aNil)) (eC (.int 30)))) (bNot (bV (eBlt dAll (aCons (eO (oLc [2] (iSeq (eSlot 1)) (gN 2) bYes (eCall F_is_line (aCons (eSlot 0) (aCons (eSlot 2) aNil))))) aNil)))))) (sRet (eC (.bl false))) sNx) (sRet (eBlt dAll (aCons (eO (oLc [3, 4] (iZip' (eSlot 1) (eSl (eSlot 1) (oAt (eC (.int 1))) oNo)) (gT (gsCons (gN 3) (gsCons (gN 4) gsNil))) bYes (eOp dLe (eOp dIx (eSlot 3) (eC (.int 0))) (eOp dIx (eSlot 4) (eC (.int 0)))))) aNil))))
def F_are_lines_of : FS := fun a => noX (fnSem 2 3 g_are_lines_of a)
theorem sc_are_lines_of : FnScope ["length", "value", "line", "one", "other"] ["length", "value"] (defScope s_are_lines_of) := ⟨rfl, rfl, rfl, by decide +kernel, rfl, by decide +kernel, by decide +kernel⟩
theorem ok_are_lines_of {P : Program} {w : World} {K : PySem.W.Frag} {mg : PySem.Str → Option Value} {base : Heap} {f : Addr} {fd : FuncData} (m_all : mg "all" = none) (m_isinstance : mg "isinstance" = none) (m_len : mg "len" = none) (m_tuple : mg "tuple" = none) (m_zip : mg "zip" = none) (g_MOST_LINES : ∃ t, mg "MOST_LINES" = some (.int 30 t)) (C_is_line : Cal P w K mg base 4 "is_line" 2 F_is_line)
    (F : FunD K "are_lines_of" "are_lines_of" (defArgs s_are_lines_of) (defBody s_are_lines_of) (defScope s_are_lines_of) [] [] f fd) : FnG P w K mg base CX0 (4 + 1) f fd ["length", "value"] (spF K mg F_are_lines_of) := by
  have nd := sc_are_lines_of.nd
  exact FnG.of_body F sc_are_lines_of rfl rfl fun cdv A outer s H E hr hgd =>
    (sss_cons (ss_if (TW.tv (tw_or (tv_not (tv_val (w := false) (ev_isi (w1 := false) "tuple" (ev_slot 1) rfl m_isinstance rfl m_tuple))) (tw_or (tv_cmp (w1 := false) (w2 := false) op_gt od_gt (ev_blt (w1 := false) cr_len cd_len (av_cons (ev_slot 1) av_nil) rfl m_len) (ev_gint rfl g_MOST_LINES) (nomark _)) (tw_or1 (tv_not (tv_val (w := false) (ev_blt (w1 := false) (cr_all rfl) cd_all (av_cons (ev_o (eo_lc [("line", 2)] rfl nd (iv_seq (w := false) (ev_slot 1)) (blkOk_by (by kernel_rfl)) rfl (fun _ _ _ _ _ => (gv_name 2 nd)) (fun _ _ _ _ _ => tsv_nil) (fun _ _ _ _ _ => (ev_call (C_is_line.mono (by decide)) hr hgd (av_cons (ev_slot 0) (av_cons (ev_slot 2) av_nil)))))) av_nil) rfl m_all))))))) (sss_one (ss_ret ev_bl)) sss_nil) (sss_one (ss_ret (ev_blt (w1 := false) (cr_all rfl) cd_all (av_cons (ev_o (eo_lc [("one", 3), ("other", 4)] rfl nd (iv_zip (w1 := false) (w2 := false) rfl m_zip (ev_slot 1) (ev_sl (w1 := false) (ev_slot 1) (ov_at (w := false) ev_int) ov_no)) (blkOk_by (by kernel_rfl)) rfl (fun _ _ _ _ _ => (gv_tup rfl (gvs_cons (gv_name 3 nd) (gvs_cons (gv_name 4 nd) gvs_nil)) (gsCons_len (gsCons_len gsNil_len)))) (fun _ _ _ _ _ => tsv_nil) (fun _ _ _ _ _ => (ev_cmp (w1 := false) (w2 := false) op_le od_le (ev_ix (w1 := false) (w2 := false) (ev_slot 3) ev_int) (ev_ix (w1 := false) (w2 := false) (ev_slot 4) ev_int) (nomark _))))) av_nil) rfl m_all))))
abbrev s_check_lines : Stmt := topS 23
def g_check_lines : List B → Fl :=
  (sSeq (sDo (eCall F_check_film (aCons (eSlot 0) aNil))) (sIf (bNot (bV (eCall F_are_lines_of (aCons (eOp dIx (eSlot 0) (eC (.int 0))) (aCons (eSlot 1) aNil))))) (fun _ => .bad) sNx))
def F_check_lines : FS := fun a => noX (fnSem 2 0 g_check_lines a)
theorem sc_check_lines : FnScope ["film", "lines"] ["film", "lines"] (defScope s_check_lines) := ⟨rfl, rfl, rfl, by decide +kernel, rfl, by decide +kernel, by decide +kernel⟩
theorem ok_check_lines {P : Program} {w : World} {K : PySem.W.Frag} {mg : PySem.Str → Option Value} {base : Heap} {f : Addr} {fd : FuncData} (C_check_film : Cal P w K mg base 5 "check_film" 1 F_check_film) (C_are_lines_of : Cal P w K mg base 5 "are_lines_of" 2 F_are_lines_of)
    (F : FunD K "check_lines" "check_lines" (defArgs s_check_lines) (defBody s_check_lines) (defScope s_check_lines) [] [] f fd) : FnG P w K mg base CX0 (5 + 1) f fd ["film", "lines"] (spF K mg F_check_lines) := by
  have nd := sc_check_lines.nd
  exact FnG.of_body F sc_check_lines rfl rfl fun cdv A outer s H E hr hgd =>
    (sss_cons (ss_do (w := false) (ev_call (C_check_film.mono (by decide)) hr hgd (av_cons (ev_slot 0) av_nil))) (sss_one (ss_if (tv_not (tv_val (w := false) (ev_call (C_are_lines_of.mono (by decide)) hr hgd (av_cons (ev_ix (w1 := false) (w2 := false) (ev_slot 0) ev_int) (av_cons (ev_slot 1) av_nil))))) (sss_one ss_never) sss_nil)))
abbrev s_check_whole : Stmt := topS 26
def g_check_whole : List B → Fl :=
  (sSeq (sDo (eCall F_check_film (aCons (eSlot 0) aNil))) (sSeq (sIf (bV (eOp dNe (eOp dIx (eSlot 0) (eC (.int 1))) (eTup aNil))) (fun _ => .bad) sNx) (sDo (eCall F_check_lines (aCons (eSlot 0) (aCons (eSlot 1) aNil))))))
def F_check_whole : FS := fun a => noX (fnSem 2 0 g_check_whole a)
theorem sc_check_whole : FnScope ["film", "lines"] ["film", "lines"] (defScope s_check_whole) := ⟨rfl, rfl, rfl, by decide +kernel, rfl, by decide +kernel, by decide +kernel⟩
theorem ok_check_whole {P : Program} {w : World} {K : PySem.W.Frag} {mg : PySem.Str → Option Value} {base : Heap} {f : Addr} {fd : FuncData} (C_check_film : Cal P w K mg base 5 "check_film" 1 F_check_film) (C_check_lines : Cal P w K mg base 6 "check_lines" 2 F_check_lines)
    (F : FunD K "check_whole" "check_whole" (defArgs s_check_whole) (defBody s_check_whole) (defScope s_check_whole) [] [] f fd) : FnG P w K mg base CX0 (6 + 1) f fd ["film", "lines"] (spF K mg F_check_whole) := by
  have nd := sc_check_whole.nd
  exact FnG.of_body F sc_check_whole rfl rfl fun cdv A outer s H E hr hgd =>
    (sss_cons (ss_do (w := false) (ev_call (C_check_film.mono (by decide)) hr hgd (av_cons (ev_slot 0) av_nil))) (sss_cons (ss_if (tv_cmp (w1 := false) (w2 := false) (op_neA hr.units) od_ne (ev_ix (w1 := false) (w2 := false) (ev_slot 0) ev_int) (ev_tup av_nil) (nomark _)) (sss_one ss_never) sss_nil) (sss_one (ss_do (w := false) (ev_call (C_check_lines.mono (by decide)) hr hgd (av_cons (ev_slot 0) (av_cons (ev_slot 1) av_nil)))))))
abbrev s_check_gap : Stmt := topS 27
def g_check_gap : List B → Fl :=
  (sIf (bNot (bV (eCall F_is_between (aCons (eSlot 0) (aCons (eC (.int 0)) (aCons (eC (.int 100)) aNil)))))) (fun _ => .bad) sNx)
def F_check_gap : FS := fun a => noX (fnSem 1 0 g_check_gap a)
theorem sc_check_gap : FnScope ["gap"] ["gap"] (defScope s_check_gap) := ⟨rfl, rfl, rfl, by decide +kernel, rfl, by decide +kernel, by decide +kernel⟩
theorem ok_check_gap {P : Program} {w : World} {K : PySem.W.Frag} {mg : PySem.Str → Option Value} {base : Heap} {f : Addr} {fd : FuncData} (g_MOST_RULE : ∃ t, mg "MOST_RULE" = some (.int 100 t)) (C_is_between : Cal P w K mg base 2 "is_between" 3 F_is_between)
    (F : FunD K "check_gap" "check_gap" (defArgs s_check_gap) (defBody s_check_gap) (defScope s_check_gap) [] [] f fd) : FnG P w K mg base CX0 (2 + 1) f fd ["gap"] (spF K mg F_check_gap) := by
  have nd := sc_check_gap.nd
  exact FnG.of_body F sc_check_gap rfl rfl fun cdv A outer s H E hr hgd =>
    (sss_one (ss_if (tv_not (tv_val (w := false) (ev_call (C_is_between.mono (by decide)) hr hgd (av_cons (ev_slot 0) (av_cons ev_int (av_cons (ev_gint rfl g_MOST_RULE) av_nil)))))) (sss_one ss_never) sss_nil))
abbrev s_check_live : Stmt := topS 25
def g_check_live : List B → Fl :=
  (sSeq (sDo (eCall F_check_whole (aCons (eSlot 0) (aCons (eSlot 1) aNil)))) (sSeq (sIf (bNot (bV (eCall F_is_between (aCons (eSlot 2) (aCons (eC (.int 0)) (aCons (eC (.int 100)) aNil)))))) (fun _ => .bad) sNx) (sDo (eCall F_check_gap (aCons (eSlot 3) aNil)))))
def F_check_live : FS := fun a => noX (fnSem 4 0 g_check_live a)
theorem sc_check_live : FnScope ["film", "lines", "delay", "gap"] ["film", "lines", "delay", "gap"] (defScope s_check_live) := ⟨rfl, rfl, rfl, by decide +kernel, rfl, by decide +kernel, by decide +kernel⟩
theorem ok_check_live {P : Program} {w : World} {K : PySem.W.Frag} {mg : PySem.Str → Option Value} {base : Heap} {f : Addr} {fd : FuncData} (g_MOST_RULE : ∃ t, mg "MOST_RULE" = some (.int 100 t)) (C_check_whole : Cal P w K mg base 7 "check_whole" 2 F_check_whole) (C_is_between : Cal P w K mg base 2 "is_between" 3 F_is_between) (C_check_gap : Cal P w K mg base 3 "check_gap" 1 F_check_gap)
    (F : FunD K "check_live" "check_live" (defArgs s_check_live) (defBody s_check_live) (defScope s_check_live) [] [] f fd) : FnG P w K mg base CX0 (7 + 1) f fd ["film", "lines", "delay", "gap"] (spF K mg F_check_live) := by
  have nd := sc_check_live.nd
  exact FnG.of_body F sc_check_live rfl rfl fun cdv A outer s H E hr hgd =>
    (sss_cons (ss_do (w := false) (ev_call (C_check_whole.mono (by decide)) hr hgd (av_cons (ev_slot 0) (av_cons (ev_slot 1) av_nil)))) (sss_cons (ss_if (tv_not (tv_val (w := false) (ev_call (C_is_between.mono (by decide)) hr hgd (av_cons (ev_slot 2) (av_cons ev_int (av_cons (ev_gint rfl g_MOST_RULE) av_nil)))))) (sss_one ss_never) sss_nil) (sss_one (ss_do (w := false) (ev_call (C_check_gap.mono (by decide)) hr hgd (av_cons (ev_slot 3) av_nil))))))
abbrev s_known_at : Stmt := topS 28
def g_known_at : List B → Fl :=
  (sSeq (sSetO 2 (oLst aNil)) (sSeq (sFor (iSeq (eSlot 0)) (gN 3) (sDo (eApp 2 (eBlt dMax (aCons (eO (oLst (aCons (eOp dAdd (eOp dIx (eSlot 3) (eC (.int 1))) (eSlot 1)) (aStar (eSl (eSlotW 2) (oAt (eUn dNeg (eC (.int 1)))) oNo) aNil)))) aNil))))) (sFz 2 (sRet (eSlot 2)))))
def F_known_at : FS := fun a => noX (fnSem 2 2 g_known_at a)
theorem sc_known_at : FnScope ["lines", "delay", "found", "line"] ["lines", "delay"] (defScope s_known_at) := ⟨rfl, rfl, rfl, by decide +kernel, rfl, by decide +kernel, by decide +kernel⟩
theorem ok_known_at {P : Program} {w : World} {K : PySem.W.Frag} {mg : PySem.Str → Option Value} {base : Heap} {f : Addr} {fd : FuncData} (m_max : mg "max" = none)
    (F : FunD K "known_at" "known_at" (defArgs s_known_at) (defBody s_known_at) (defScope s_known_at) [] [] f fd) : FnG P w K mg base CX0 (0 + 1) f fd ["lines", "delay"] (spF K mg F_known_at) := by
  have nd := sc_known_at.nd
  exact FnG.of_body F sc_known_at rfl rfl fun cdv A outer s H E hr hgd =>
    (sss_cons (ss_setO 2 (eo_lst av_nil) nd) (sss_cons (ss_for PassesOwn.never rfl (iv_seq (w := false) (ev_slot 0)) (gv_name 3 nd) (sss_one (ss_do (w := false) (ev_app 2 (ev_blt (w1 := false) (cr_maxA rfl) cd_max (av_cons (ev_o (eo_lst (av_cons (ev_op (w1 := false) (w2 := false) op_addA od_add (ev_ix (w1 := false) (w2 := false) (ev_slot 3) ev_int) (ev_slot 1)) (av_star (w1 := false) (ev_sl (w1 := true) (ev_slotW 2) (ov_at (w := false) (ev_un (w1 := false) un_neg ud_neg ev_int)) ov_no) av_nil)))) av_nil) rfl m_max))))) (sss_one (ss_fz 2 (ss_ret (ev_slot 2))))))
abbrev s_shows_by : Stmt := topS 29
def g_shows_by : List B → Fl :=
  (sSeq (sPar [3, 4] (mOw (oLst aNil) (mVa (eC (.int 0)) mNil))) (sSeq (sFor (iZip' (eSlot 0) (eCall F_known_at (aCons (eSlot 0) (aCons (eSlot 1) aNil)))) (gT (gsCons (gN 5) (gsCons (gN 6) gsNil))) (sSeq (sSet 7 (eBlt dMax (aCons (eSlot 6) (aCons (eSlot 4) aNil)))) (sSeq (sDo (eApp 3 (eTup (aCons (eSlot 7) (aCons (eOp dAdd (eSlot 7) (eOp dIx (eSlot 5) (eC (.int 2)))) aNil))))) (sSet 4 (eOp dAdd (eOp dAdd (eSlot 7) (eOp dIx (eSlot 5) (eC (.int 2)))) (eSlot 2)))))) (sFz 3 (sRet (eSlot 3)))))
def F_shows_by : FS := fun a => noX (fnSem 3 5 g_shows_by a)
theorem sc_shows_by : FnScope ["lines", "delay", "gap", "found", "tick", "line", "known", "on"] ["lines", "delay", "gap"] (defScope s_shows_by) := ⟨rfl, rfl, rfl, by decide +kernel, rfl, by decide +kernel, by decide +kernel⟩
theorem ok_shows_by {P : Program} {w : World} {K : PySem.W.Frag} {mg : PySem.Str → Option Value} {base : Heap} {f : Addr} {fd : FuncData} (m_max : mg "max" = none) (m_zip : mg "zip" = none) (C_known_at : Cal P w K mg base 1 "known_at" 2 F_known_at)
    (F : FunD K "shows_by" "shows_by" (defArgs s_shows_by) (defBody s_shows_by) (defScope s_shows_by) [] [] f fd) : FnG P w K mg base CX0 (1 + 1) f fd ["lines", "delay", "gap"] (spF K mg F_shows_by) := by
  have nd := sc_shows_by.nd
  exact FnG.of_body F sc_shows_by rfl rfl fun cdv A outer s H E hr hgd =>
    (sss_cons (ss_par 3 4 (mv_ow (eo_lst av_nil) (mv_va ev_int mv_nil)) rfl nd) (sss_cons (ss_for PassesOwn.never rfl (iv_zip (w1 := false) (w2 := false) rfl m_zip (ev_slot 0) (ev_call (C_known_at.mono (by decide)) hr hgd (av_cons (ev_slot 0) (av_cons (ev_slot 1) av_nil)))) (gv_tup rfl (gvs_cons (gv_name 5 nd) (gvs_cons (gv_name 6 nd) gvs_nil)) (gsCons_len (gsCons_len gsNil_len))) (sss_cons (ss_set 7 (ev_blt (w1 := false) (cr_maxA rfl) cd_max (av_cons (ev_slot 6) (av_cons (ev_slot 4) av_nil)) rfl m_max) nd) (sss_cons (ss_do (w := false) (ev_app 3 (ev_tup (av_cons (ev_slot 7) (av_cons (ev_op (w1 := false) (w2 := false) op_addA od_add (ev_slot 7) (ev_ix (w1 := false) (w2 := false) (ev_slot 5) ev_int)) av_nil))))) (sss_one (ss_set 4 (ev_op (w1 := false) (w2 := false) op_addA od_add (ev_op (w1 := false) (w2 := false) op_addA od_add (ev_slot 7) (ev_ix (w1 := false) (w2 := false) (ev_slot 5) ev_int)) (ev_slot 2)) nd))))) (sss_one (ss_fz 3 (ss_ret (ev_slot 3))))))
abbrev s_lags_of : Stmt := topS 30
def g_lags_of : List B → Fl :=
  (sRet (eO (oLc [3, 4] (iZip' (eSlot 0) (eCall F_shows_by (aCons (eSlot 0) (aCons (eSlot 1) (aCons (eSlot 2) aNil))))) (gT (gsCons (gN 3) (gsCons (gN 4) gsNil))) bYes (eOp dSub (eOp dIx (eSlot 4) (eC (.int 0))) (eOp dIx (eSlot 3) (eC (.int 0)))))))
def F_lags_of : FS := fun a => noX (fnSem 3 2 g_lags_of a)
theorem sc_lags_of : FnScope ["lines", "delay", "gap", "line", "show"] ["lines", "delay", "gap"] (defScope s_lags_of) := ⟨rfl, rfl, rfl, by decide +kernel, rfl, by decide +kernel, by decide +kernel⟩
theorem ok_lags_of {P : Program} {w : World} {K : PySem.W.Frag} {mg : PySem.Str → Option Value} {base : Heap} {f : Addr} {fd : FuncData} (m_zip : mg "zip" = none) (C_shows_by : Cal P w K mg base 2 "shows_by" 3 F_shows_by)
    (F : FunD K "lags_of" "lags_of" (defArgs s_lags_of) (defBody s_lags_of) (defScope s_lags_of) [] [] f fd) : FnG P w K mg base CX0 (2 + 1) f fd ["lines", "delay", "gap"] (spF K mg F_lags_of) := by
  have nd := sc_lags_of.nd
  exact FnG.of_body F sc_lags_of rfl rfl fun cdv A outer s H E hr hgd =>
    (sss_one (ss_ret (ev_o (eo_lc [("line", 3), ("show", 4)] rfl nd (iv_zip (w1 := false) (w2 := false) rfl m_zip (ev_slot 0) (ev_call (C_shows_by.mono (by decide)) hr hgd (av_cons (ev_slot 0) (av_cons (ev_slot 1) (av_cons (ev_slot 2) av_nil))))) (blkOk_by (by kernel_rfl)) rfl (fun _ _ _ _ _ => (gv_tup rfl (gvs_cons (gv_name 3 nd) (gvs_cons (gv_name 4 nd) gvs_nil)) (gsCons_len (gsCons_len gsNil_len)))) (fun _ _ _ _ _ => tsv_nil) (fun _ _ _ _ _ => (ev_op (w1 := false) (w2 := false) op_sub od_sub (ev_ix (w1 := false) (w2 := false) (ev_slot 4) ev_int) (ev_ix (w1 := false) (w2 := false) (ev_slot 3) ev_int)))))))
abbrev s_worst_lag : Stmt := topS 35
def g_worst_lag : List B → Fl :=
  (sSeq (sDo (eCall F_check_live (aCons (eSlot 0) (aCons (eSlot 1) (aCons (eSlot 2) (aCons (eSlot 3) aNil)))))) (sSeq (sSet 4 (eCall F_lags_of (aCons (eSlot 1) (aCons (eSlot 2) (aCons (eSlot 3) aNil))))) (sRet (eIf (bV (eOp dNe (eSlot 4) (eO (oLst aNil)))) (eTup (aCons (eBlt dMax (aCons (eSlot 4) aNil)) (aCons (eIndex (eSlot 4) (eBlt dMax (aCons (eSlot 4) aNil))) aNil))) (eTup (aCons (eC (.int 0)) (aCons (eC .non) aNil)))))))
def F_worst_lag : FS := fun a => noX (fnSem 4 1 g_worst_lag a)
theorem sc_worst_lag : FnScope ["film", "lines", "delay", "gap", "lags"] ["film", "lines", "delay", "gap"] (defScope s_worst_lag) := ⟨rfl, rfl, rfl, by decide +kernel, rfl, by decide +kernel, by decide +kernel⟩
theorem ok_worst_lag {P : Program} {w : World} {K : PySem.W.Frag} {mg : PySem.Str → Option Value} {base : Heap} {f : Addr} {fd : FuncData} (m_max : mg "max" = none) (C_check_live : Cal P w K mg base 8 "check_live" 4 F_check_live) (C_lags_of : Cal P w K mg base 3 "lags_of" 3 F_lags_of)
    (F : FunD K "worst_lag" "worst_lag" (defArgs s_worst_lag) (defBody s_worst_lag) (defScope s_worst_lag) [] [] f fd) : FnG P w K mg base CX0 (8 + 1) f fd ["film", "lines", "delay", "gap"] (spF K mg F_worst_lag) := by
  have nd := sc_worst_lag.nd
  exact FnG.of_body F sc_worst_lag rfl rfl fun cdv A outer s H E hr hgd =>
    (sss_cons (ss_do (w := false) (ev_call (C_check_live.mono (by decide)) hr hgd (av_cons (ev_slot 0) (av_cons (ev_slot 1) (av_cons (ev_slot 2) (av_cons (ev_slot 3) av_nil)))))) (sss_cons (ss_set 4 (ev_call (C_lags_of.mono (by decide)) hr hgd (av_cons (ev_slot 1) (av_cons (ev_slot 2) (av_cons (ev_slot 3) av_nil)))) nd) (sss_one (ss_ret (ev_if (tv_cmp (w1 := false) (w2 := false) (op_neA hr.units) od_ne (ev_slot 4) (ev_o (eo_lst av_nil)) (nomark _)) (ev_tup (av_cons (ev_blt (w1 := false) (cr_maxA rfl) cd_max (av_cons (ev_slot 4) av_nil) rfl m_max) (av_cons (ev_index (w1 := false) (w2 := false) (ev_slot 4) (ev_blt (w1 := false) (cr_maxA rfl) cd_max (av_cons (ev_slot 4) av_nil) rfl m_max)) av_nil))) (ev_tup (av_cons ev_int (av_cons ev_non av_nil))))))))
abbrev s__law_of : Stmt := topS 44
def g__law_of : List B → Fl :=
  (sRet (eOp dIx (eSlot 1) (eCallB 0 F__law_take (aCons (eBlt dLen (aCons (eSlot 1) aNil)) aNil))))
def F__law_of : FS := fun a => noX (fnSem 2 0 g__law_of a)
theorem sc__law_of : FnScope ["pot", "some"] ["pot", "some"] (defScope s__law_of) := ⟨rfl, rfl, rfl, by decide +kernel, rfl, by decide +kernel, by decide +kernel⟩
theorem ok__law_of {P : Program} {w : World} {K : PySem.W.Frag} {mg : PySem.Str → Option Value} {base : Heap} {f : Addr} {fd : FuncData} (m_len : mg "len" = none) (C__law_take : Cal P w K mg base 1 "_law_take" 2 F__law_take)
    (F : FunD K "_law_of" "_law_of" (defArgs s__law_of) (defBody s__law_of) (defScope s__law_of) [] [] f fd) : FnG P w K mg base CX0 (1 + 1) f fd ["pot", "some"] (spF K mg F__law_of) := by
  have nd := sc__law_of.nd
  exact FnG.of_body F sc__law_of rfl rfl fun cdv A outer s H E hr hgd =>
    (sss_one (ss_ret (ev_ix (w1 := false) (w2 := false) (ev_slot 1) (ev_callB 0 (C__law_take.mono (by decide)) hr hgd (av_cons (ev_blt (w1 := false) cr_len cd_len (av_cons (ev_slot 1) av_nil) rfl m_len) av_nil)))))
abbrev s_check_lag : Stmt := topS 34
def g_check_lag : List B → Fl :=
  (sIf (bNot (bV (eCall F_is_between (aCons (eSlot 0) (aCons (eC (.int 0)) (aCons (eC (.int 2000)) aNil)))))) (fun _ => .bad) sNx)
def F_check_lag : FS := fun a => noX (fnSem 1 0 g_check_lag a)
theorem sc_check_lag : FnScope ["lag"] ["lag"] (defScope s_check_lag) := ⟨rfl, rfl, rfl, by decide +kernel, rfl, by decide +kernel, by decide +kernel⟩
theorem ok_check_lag {P : Program} {w : World} {K : PySem.W.Frag} {mg : PySem.Str → Option Value} {base : Heap} {f : Addr} {fd : FuncData} (g_MOST_LAG : ∃ t, mg "MOST_LAG" = some (.int 2000 t)) (C_is_between : Cal P w K mg base 2 "is_between" 3 F_is_between)
    (F : FunD K "check_lag" "check_lag" (defArgs s_check_lag) (defBody s_check_lag) (defScope s_check_lag) [] [] f fd) : FnG P w K mg base CX0 (2 + 1) f fd ["lag"] (spF K mg F_check_lag) := by
  have nd := sc_check_lag.nd
  exact FnG.of_body F sc_check_lag rfl rfl fun cdv A outer s H E hr hgd =>
    (sss_one (ss_if (tv_not (tv_val (w := false) (ev_call (C_is_between.mono (by decide)) hr hgd (av_cons (ev_slot 0) (av_cons ev_int (av_cons (ev_gint rfl g_MOST_LAG) av_nil)))))) (sss_one ss_never) sss_nil))
abbrev s_most_delay : Stmt := topS 36
def g_most_delay : List B → Fl :=
  (sSeq (sDo (eCall F_check_whole (aCons (eSlot 0) (aCons (eSlot 1) aNil)))) (sSeq (sDo (eCall F_check_gap (aCons (eSlot 2) aNil))) (sSeq (sDo (eCall F_check_lag (aCons (eSlot 3) aNil))) (sSeq (sSet 4 (eO (oLc [5] (iRange1 (eOp dAdd (eC (.int 100)) (eC (.int 1)))) (gN 5) (bV (eBlt dAll (aCons (eO (oLc [6] (iSeq (eCall F_lags_of (aCons (eSlot 1) (aCons (eSlot 5) (aCons (eSlot 2) aNil))))) (gN 6) bYes (eOp dLe (eSlot 6) (eSlot 3)))) aNil))) (eSlot 5)))) (sRet (eIf (bV (eOp dNe (eSlot 4) (eO (oLst aNil)))) (eOp dIx (eSlot 4) (eUn dNeg (eC (.int 1)))) (eC .non)))))))
def F_most_delay : FS := fun a => noX (fnSem 4 3 g_most_delay a)
theorem sc_most_delay : FnScope ["film", "lines", "gap", "lag", "some", "delay", "one"] ["film", "lines", "gap", "lag"] (defScope s_most_delay) := ⟨rfl, rfl, rfl, by decide +kernel, rfl, by decide +kernel, by decide +kernel⟩
theorem ok_most_delay {P : Program} {w : World} {K : PySem.W.Frag} {mg : PySem.Str → Option Value} {base : Heap} {f : Addr} {fd : FuncData} (m_all : mg "all" = none) (m_range : mg "range" = none) (g_MOST_RULE : ∃ t, mg "MOST_RULE" = some (.int 100 t)) (C_check_whole : Cal P w K mg base 7 "check_whole" 2 F_check_whole) (C_check_gap : Cal P w K mg base 3 "check_gap" 1 F_check_gap) (C_check_lag : Cal P w K mg base 3 "check_lag" 1 F_check_lag) (C_lags_of : Cal P w K mg base 3 "lags_of" 3 F_lags_of)
    (F : FunD K "most_delay" "most_delay" (defArgs s_most_delay) (defBody s_most_delay) (defScope s_most_delay) [] [] f fd) : FnG P w K mg base CX0 (7 + 1) f fd ["film", "lines", "gap", "lag"] (spF K mg F_most_delay) := by
  have nd := sc_most_delay.nd
  exact FnG.of_body F sc_most_delay rfl rfl fun cdv A outer s H E hr hgd =>
    (sss_cons (ss_do (w := false) (ev_call (C_check_whole.mono (by decide)) hr hgd (av_cons (ev_slot 0) (av_cons (ev_slot 1) av_nil)))) (sss_cons (ss_do (w := false) (ev_call (C_check_gap.mono (by decide)) hr hgd (av_cons (ev_slot 2) av_nil))) (sss_cons (ss_do (w := false) (ev_call (C_check_lag.mono (by decide)) hr hgd (av_cons (ev_slot 3) av_nil))) (sss_cons (ss_setLcF 4 [("delay", 5)] rfl nd (sw_true rfl rfl rfl (by kernel_rfl)) (iv_range1 rfl m_range (ev_op (w1 := false) (w2 := false) op_addA od_add (ev_gint rfl g_MOST_RULE) ev_int)) (blkOk_by (by kernel_rfl)) rfl (fun _ _ _ _ _ => (gv_name 5 nd)) (fun _ _ _ _ _ => (tsv_one (tv_val (w := false) (ev_blt (w1 := false) (cr_all rfl) cd_all (av_cons (ev_o (eo_lc [("one", 6)] rfl nd (iv_seq (w := false) (ev_call (C_lags_of.mono (by decide)) hr hgd (av_cons (ev_slot 1) (av_cons (ev_slot 5) (av_cons (ev_slot 2) av_nil))))) (blkOk_by (by kernel_rfl)) rfl (fun _ _ _ _ _ => (gv_name 6 nd)) (fun _ _ _ _ _ => tsv_nil) (fun _ _ _ _ _ => (ev_cmp (w1 := false) (w2 := false) op_le od_le (ev_slot 6) (ev_slot 3) (nomark _))))) av_nil) rfl m_all)))) (fun _ _ _ _ _ => (ev_slot 5))) (sss_one (ss_ret (ev_if (tv_cmp (w1 := false) (w2 := false) (op_neA hr.units) od_ne (ev_slot 4) (ev_o (eo_lst av_nil)) (nomark _)) (ev_ix (w1 := false) (w2 := false) (ev_slot 4) (ev_un (w1 := false) un_neg ud_neg ev_int)) ev_non)))))))
abbrev s__law_known : Stmt := topS 47
def g__law_known : List B → Fl :=
  (sRet (eO (oLc [2] (iRange1 (eBlt dLen (aCons (eSlot 0) aNil))) (gN 2) bYes (eOp dAdd (eBlt dMax (aCons (eO (oLc [3] (iSeq (eSl (eSlot 0) oNo (oAt (eOp dAdd (eSlot 2) (eC (.int 1)))))) (gN 3) bYes (eOp dIx (eSlot 3) (eC (.int 1))))) aNil)) (eSlot 1)))))
def F__law_known : FS := fun a => noX (fnSem 2 2 g__law_known a)
theorem sc__law_known : FnScope ["lines", "delay", "place", "line"] ["lines", "delay"] (defScope s__law_known) := ⟨rfl, rfl, rfl, by decide +kernel, rfl, by decide +kernel, by decide +kernel⟩
theorem ok__law_known {P : Program} {w : World} {K : PySem.W.Frag} {mg : PySem.Str → Option Value} {base : Heap} {f : Addr} {fd : FuncData} (m_len : mg "len" = none) (m_max : mg "max" = none) (m_range : mg "range" = none)
    (F : FunD K "_law_known" "_law_known" (defArgs s__law_known) (defBody s__law_known) (defScope s__law_known) [] [] f fd) : FnG P w K mg base CX0 (0 + 1) f fd ["lines", "delay"] (spF K mg F__law_known) := by
  have nd := sc__law_known.nd
  exact FnG.of_body F sc__law_known rfl rfl fun cdv A outer s H E hr hgd =>
    (sss_one (ss_ret (ev_o (eo_lc [("place", 2)] rfl nd (iv_range1 rfl m_range (ev_blt (w1 := false) cr_len cd_len (av_cons (ev_slot 0) av_nil) rfl m_len)) (blkOk_by (by kernel_rfl)) rfl (fun _ _ _ _ _ => (gv_name 2 nd)) (fun _ _ _ _ _ => tsv_nil) (fun _ _ _ _ _ => (ev_op (w1 := false) (w2 := false) op_addA od_add (ev_blt (w1 := false) (cr_maxA rfl) cd_max (av_cons (ev_o (eo_lc [("line", 3)] rfl nd (iv_seq (w := false) (ev_sl (w1 := false) (ev_slot 0) ov_no (ov_at (w := false) (ev_op (w1 := false) (w2 := false) op_addA od_add (ev_slot 2) ev_int)))) (blkOk_by (by kernel_rfl)) rfl (fun _ _ _ _ _ => (gv_name 3 nd)) (fun _ _ _ _ _ => tsv_nil) (fun _ _ _ _ _ => (ev_ix (w1 := false) (w2 := false) (ev_slot 3) ev_int)))) av_nil) rfl m_max) (ev_slot 1)))))))
abbrev s_waits_of : Stmt := topS 37
def g_waits_of : List B → Fl :=
  (sSeq (sSet 3 (eO (oLc [4] (iSeq (eCall F_shows_by (aCons (eSlot 0) (aCons (eSlot 1) (aCons (eSlot 2) aNil))))) (gN 4) bYes (eOp dIx (eSlot 4) (eC (.int 0)))))) (sRet (eO (oZip (eCall F_known_at (aCons (eSlot 0) (aCons (eSlot 1) aNil))) (eSlot 3)))))
def F_waits_of : FS := fun a => noX (fnSem 3 2 g_waits_of a)
theorem sc_waits_of : FnScope ["lines", "delay", "gap", "ons", "show"] ["lines", "delay", "gap"] (defScope s_waits_of) := ⟨rfl, rfl, rfl, by decide +kernel, rfl, by decide +kernel, by decide +kernel⟩
theorem ok_waits_of {P : Program} {w : World} {K : PySem.W.Frag} {mg : PySem.Str → Option Value} {base : Heap} {f : Addr} {fd : FuncData} (m_list : mg "list" = none) (m_zip : mg "zip" = none) (C_shows_by : Cal P w K mg base 2 "shows_by" 3 F_shows_by) (C_known_at : Cal P w K mg base 1 "known_at" 2 F_known_at)
    (F : FunD K "waits_of" "waits_of" (defArgs s_waits_of) (defBody s_waits_of) (defScope s_waits_of) [] [] f fd) : FnG P w K mg base CX0 (2 + 1) f fd ["lines", "delay", "gap"] (spF K mg F_waits_of) := by
  have nd := sc_waits_of.nd
  exact FnG.of_body F sc_waits_of rfl rfl fun cdv A outer s H E hr hgd =>
    (sss_cons (ss_setLcF 3 [("show", 4)] rfl nd (sw_true rfl rfl rfl (by kernel_rfl)) (iv_seq (w := false) (ev_call (C_shows_by.mono (by decide)) hr hgd (av_cons (ev_slot 0) (av_cons (ev_slot 1) (av_cons (ev_slot 2) av_nil))))) (blkOk_by (by kernel_rfl)) rfl (fun _ _ _ _ _ => (gv_name 4 nd)) (fun _ _ _ _ _ => tsv_nil) (fun _ _ _ _ _ => (ev_ix (w1 := false) (w2 := false) (ev_slot 4) ev_int))) (sss_one (ss_ret (ev_o (eo_listZip (w1 := false) (w2 := false) rfl rfl m_list rfl m_zip (ev_call (C_known_at.mono (by decide)) hr hgd (av_cons (ev_slot 0) (av_cons (ev_slot 1) av_nil))) (ev_slot 3))))))
abbrev s_waiting_by : Stmt := topS 38
def g_waiting_by : List B → Fl :=
  (sRet (eBlt dLen (aCons (eO (oLc [2, 3] (iSeq (eSlot 0)) (gT (gsCons (gN 2) (gsCons (gN 3) gsNil))) (bV (eChain dLe dLt (eSlot 2) (eSlot 1) (eSlot 3))) (eSlot 2))) aNil)))
def F_waiting_by : FS := fun a => noX (fnSem 2 2 g_waiting_by a)
theorem sc_waiting_by : FnScope ["waits", "tick", "known", "on"] ["waits", "tick"] (defScope s_waiting_by) := ⟨rfl, rfl, rfl, by decide +kernel, rfl, by decide +kernel, by decide +kernel⟩
theorem ok_waiting_by {P : Program} {w : World} {K : PySem.W.Frag} {mg : PySem.Str → Option Value} {base : Heap} {f : Addr} {fd : FuncData} (m_len : mg "len" = none)
    (F : FunD K "waiting_by" "waiting_by" (defArgs s_waiting_by) (defBody s_waiting_by) (defScope s_waiting_by) [] [] f fd) : FnG P w K mg base CX0 (0 + 1) f fd ["waits", "tick"] (spF K mg F_waiting_by) := by
  have nd := sc_waiting_by.nd
  exact FnG.of_body F sc_waiting_by rfl rfl fun cdv A outer s H E hr hgd =>
    (sss_one (ss_ret (ev_blt (w1 := false) cr_len cd_len (av_cons (ev_o (eo_lc [("known", 2), ("on", 3)] rfl nd (iv_seq (w := false) (ev_slot 0)) (blkOk_by (by kernel_rfl)) rfl (fun _ _ _ _ _ => (gv_tup rfl (gvs_cons (gv_name 2 nd) (gvs_cons (gv_name 3 nd) gvs_nil)) (gsCons_len (gsCons_len gsNil_len)))) (fun _ _ _ _ _ => (tsv_one (tv_chain (w2 := false) op_le od_le op_lt od_lt (ev_slot 2) (ev_slot 1) (ev_slot 3)))) (fun _ _ _ _ _ => (ev_slot 2)))) av_nil) rfl m_len)))
abbrev s_waiting_at : Stmt := topS 39
def g_waiting_at : List B → Fl :=
  (sSeq (sDo (eCall F_check_live (aCons (eSlot 0) (aCons (eSlot 1) (aCons (eSlot 2) (aCons (eSlot 3) aNil)))))) (sSeq (sIf (bNot (bV (eCall F_is_between (aCons (eSlot 4) (aCons (eC (.int 0)) (aCons (eC (.int 20000)) aNil)))))) (fun _ => .bad) sNx) (sRet (eCall F_waiting_by (aCons (eCall F_waits_of (aCons (eSlot 1) (aCons (eSlot 2) (aCons (eSlot 3) aNil)))) (aCons (eSlot 4) aNil))))))
def F_waiting_at : FS := fun a => noX (fnSem 5 0 g_waiting_at a)
theorem sc_waiting_at : FnScope ["film", "lines", "delay", "gap", "tick"] ["film", "lines", "delay", "gap", "tick"] (defScope s_waiting_at) := ⟨rfl, rfl, rfl, by decide +kernel, rfl, by decide +kernel, by decide +kernel⟩
theorem ok_waiting_at {P : Program} {w : World} {K : PySem.W.Frag} {mg : PySem.Str → Option Value} {base : Heap} {f : Addr} {fd : FuncData} (g_MOST_TOLD : ∃ t, mg "MOST_TOLD" = some (.int 20000 t)) (C_check_live : Cal P w K mg base 8 "check_live" 4 F_check_live) (C_is_between : Cal P w K mg base 2 "is_between" 3 F_is_between) (C_waits_of : Cal P w K mg base 3 "waits_of" 3 F_waits_of) (C_waiting_by : Cal P w K mg base 1 "waiting_by" 2 F_waiting_by)
    (F : FunD K "waiting_at" "waiting_at" (defArgs s_waiting_at) (defBody s_waiting_at) (defScope s_waiting_at) [] [] f fd) : FnG P w K mg base CX0 (8 + 1) f fd ["film", "lines", "delay", "gap", "tick"] (spF K mg F_waiting_at) := by
  have nd := sc_waiting_at.nd
  exact FnG.of_body F sc_waiting_at rfl rfl fun cdv A outer s H E hr hgd =>
    (sss_cons (ss_do (w := false) (ev_call (C_check_live.mono (by decide)) hr hgd (av_cons (ev_slot 0) (av_cons (ev_slot 1) (av_cons (ev_slot 2) (av_cons (ev_slot 3) av_nil)))))) (sss_cons (ss_if (tv_not (tv_val (w := false) (ev_call (C_is_between.mono (by decide)) hr hgd (av_cons (ev_slot 4) (av_cons ev_int (av_cons (ev_gint rfl g_MOST_TOLD) av_nil)))))) (sss_one ss_never) sss_nil) (sss_one (ss_ret (ev_call (C_waiting_by.mono (by decide)) hr hgd (av_cons (ev_call (C_waits_of.mono (by decide)) hr hgd (av_cons (ev_slot 1) (av_cons (ev_slot 2) (av_cons (ev_slot 3) av_nil)))) (av_cons (ev_slot 4) av_nil)))))))
abbrev s_most_waiting : Stmt := topS 40
def g_most_waiting : List B → Fl :=
  (sSeq (sDo (eCall F_check_live (aCons (eSlot 0) (aCons (eSlot 1) (aCons (eSlot 2) (aCons (eSlot 3) aNil)))))) (sSeq (sSet 4 (eCall F_waits_of (aCons (eSlot 1) (aCons (eSlot 2) (aCons (eSlot 3) aNil))))) (sSeq (sSet 5 (eO (oLst (aCons (eTup (aCons (eC (.int 0)) (aCons (eC (.int 0)) aNil))) (aStar (eO (oLc [7, 8] (iSeq (eSlot 4)) (gT (gsCons (gN 7) (gsCons (gN 8) gsNil))) bYes (eTup (aCons (eCall F_waiting_by (aCons (eSlot 4) (aCons (eSlot 7) aNil))) (aCons (eSlot 7) aNil))))) aNil))))) (sSeq (sSet 6 (eBlt dMax (aCons (eO (oLc [9, 10] (iSeq (eSlot 5)) (gT (gsCons (gN 9) (gsCons (gN 10) gsNil))) bYes (eSlot 9))) aNil))) (sRet (eTup (aCons (eSlot 6) (aCons (eBlt dMin (aCons (eO (oLc [9, 10] (iSeq (eSlot 5)) (gT (gsCons (gN 9) (gsCons (gN 10) gsNil))) (bV (eOp dEq (eSlot 9) (eSlot 6))) (eSlot 10))) aNil)) aNil))))))))
def F_most_waiting : FS := fun a => noX (fnSem 4 7 g_most_waiting a)
theorem sc_most_waiting : FnScope ["film", "lines", "delay", "gap", "waits", "found", "most", "known", "on", "number", "tick"] ["film", "lines", "delay", "gap"] (defScope s_most_waiting) := ⟨rfl, rfl, rfl, by decide +kernel, rfl, by decide +kernel, by decide +kernel⟩
theorem ok_most_waiting {P : Program} {w : World} {K : PySem.W.Frag} {mg : PySem.Str → Option Value} {base : Heap} {f : Addr} {fd : FuncData} (m_max : mg "max" = none) (m_min : mg "min" = none) (C_check_live : Cal P w K mg base 8 "check_live" 4 F_check_live) (C_waits_of : Cal P w K mg base 3 "waits_of" 3 F_waits_of) (C_waiting_by : Cal P w K mg base 1 "waiting_by" 2 F_waiting_by)
    (F : FunD K "most_waiting" "most_waiting" (defArgs s_most_waiting) (defBody s_most_waiting) (defScope s_most_waiting) [] [] f fd) : FnG P w K mg base CX0 (8 + 1) f fd ["film", "lines", "delay", "gap"] (spF K mg F_most_waiting) := by
  have nd := sc_most_waiting.nd
  exact FnG.of_body F sc_most_waiting rfl rfl fun cdv A outer s H E hr hgd =>
    (sss_cons (ss_do (w := false) (ev_call (C_check_live.mono (by decide)) hr hgd (av_cons (ev_slot 0) (av_cons (ev_slot 1) (av_cons (ev_slot 2) (av_cons (ev_slot 3) av_nil)))))) (sss_cons (ss_set 4 (ev_call (C_waits_of.mono (by decide)) hr hgd (av_cons (ev_slot 1) (av_cons (ev_slot 2) (av_cons (ev_slot 3) av_nil)))) nd) (sss_cons (ss_set 5 (ev_o (eo_lst (av_cons (ev_tup (av_cons ev_int (av_cons ev_int av_nil))) (av_star (w1 := false) (ev_o (eo_lc [("known", 7), ("on", 8)] rfl nd (iv_seq (w := false) (ev_slot 4)) (blkOk_by (by kernel_rfl)) rfl (fun _ _ _ _ _ => (gv_tup rfl (gvs_cons (gv_name 7 nd) (gvs_cons (gv_name 8 nd) gvs_nil)) (gsCons_len (gsCons_len gsNil_len)))) (fun _ _ _ _ _ => tsv_nil) (fun _ _ _ _ _ => (ev_tup (av_cons (ev_call (C_waiting_by.mono (by decide)) hr hgd (av_cons (ev_slot 4) (av_cons (ev_slot 7) av_nil))) (av_cons (ev_slot 7) av_nil)))))) av_nil)))) nd) (sss_cons (ss_set 6 (ev_blt (w1 := false) (cr_maxA rfl) cd_max (av_cons (ev_o (eo_lc [("number", 9), ("tick", 10)] rfl nd (iv_seq (w := false) (ev_slot 5)) (blkOk_by (by kernel_rfl)) rfl (fun _ _ _ _ _ => (gv_tup rfl (gvs_cons (gv_name 9 nd) (gvs_cons (gv_name 10 nd) gvs_nil)) (gsCons_len (gsCons_len gsNil_len)))) (fun _ _ _ _ _ => tsv_nil) (fun _ _ _ _ _ => (ev_slot 9)))) av_nil) rfl m_max) nd) (sss_one (ss_ret (ev_tup (av_cons (ev_slot 6) (av_cons (ev_blt (w1 := false) (cr_minA rfl) cd_min (av_cons (ev_o (eo_lc [("number", 9), ("tick", 10)] rfl nd (iv_seq (w := false) (ev_slot 5)) (blkOk_by (by kernel_rfl)) rfl (fun _ _ _ _ _ => (gv_tup rfl (gvs_cons (gv_name 9 nd) (gvs_cons (gv_name 10 nd) gvs_nil)) (gsCons_len (gsCons_len gsNil_len)))) (fun _ _ _ _ _ => (tsv_one (tv_cmp (w1 := false) (w2 := false) (op_eqA hr.units) od_eq (ev_slot 9) (ev_slot 6) (nomark _)))) (fun _ _ _ _ _ => (ev_slot 10)))) av_nil) rfl m_min) av_nil)))))))))
abbrev s__law_right : Stmt := topS 50
def g__law_right : List B → Fl :=
  (sSeq (sSet 1 (eTup (aCons (eOp dAdd (eC (.int 4)) (eCallB 0 F__law_take (aCons (eC (.int 37)) aNil))) (aCons (eTup aNil) aNil)))) (sSeq (sUnp (eTup (aCons (eCallB 0 F__law_live_lines (aCons (eSlot 1) (aCons (eC (.int 7)) aNil))) (aCons (eCallB 0 F__law_take (aCons (eC (.int 9)) aNil)) (aCons (eCallB 0 F__law_take (aCons (eC (.int 5)) aNil)) aNil)))) (gT (gsCons (gN 2) (gsCons (gN 3) (gsCons (gN 4) gsNil))))) (sSeq (sSet 5 (eCall F__law_lags (aCons (eSlot 2) (aCons (eSlot 3) (aCons (eSlot 4) aNil))))) (sSeq (sSet 6 (eIf (bV (eOp dNe (eSlot 5) (eO (oLst aNil)))) (eTup (aCons (eBlt dMax (aCons (eSlot 5) aNil)) (aCons (eIndex (eSlot 5) (eBlt dMax (aCons (eSlot 5) aNil))) aNil))) (eTup (aCons (eC (.int 0)) (aCons (eC .non) aNil))))) (sSeq (sIf (bV (eOp dNe (eBlt dRepr (aCons (eCall F_worst_lag (aCons (eSlot 1) (aCons (eSlot 2) (aCons (eSlot 3) (aCons (eSlot 4) aNil))))) aNil)) (eBlt dRepr (aCons (eSlot 6) aNil)))) (sRet (eC (.bl false))) sNx) (sSeq (sSet 7 (eCallB 0 F__law_take (aCons (eCallB 0 F__law_of (aCons (eO (oLst (aCons (eC (.int 20)) (aCons (eC (.int 150)) aNil)))) aNil)) aNil))) (sSeq (sSet 8 (eO (oLc [14] (iRange1 (eC (.int 101))) (gN 14) (bV (eBlt dAll (aCons (eO (oLc [15] (iSeq (eCall F__law_lags (aCons (eSlot 2) (aCons (eSlot 14) (aCons (eSlot 4) aNil))))) (gN 15) bYes (eOp dLe (eSlot 15) (eSlot 7)))) aNil))) (eSlot 14)))) (sSeq (sIf (bV (eOp dNe (eBlt dRepr (aCons (eCall F_most_delay (aCons (eSlot 1) (aCons (eSlot 2) (aCons (eSlot 4) (aCons (eSlot 7) aNil))))) aNil)) (eBlt dRepr (aCons (eIf (bV (eOp dNe (eSlot 8) (eO (oLst aNil)))) (eOp dIx (eSlot 8) (eUn dNeg (eC (.int 1)))) (eC .non)) aNil)))) (sRet (eC (.bl false))) sNx) (sSeq (sUnp (eTup (aCons (eCall F__law_known (aCons (eSlot 2) (aCons (eSlot 3) aNil))) (aCons (eO (oLc [16] (iSeq (eCall F__law_live (aCons (eSlot 2) (aCons (eSlot 3) (aCons (eSlot 4) aNil))))) (gN 16) bYes (eOp dIx (eSlot 16) (eC (.int 0))))) aNil))) (gT (gsCons (gN 9) (gsCons (gN 10) gsNil)))) (sSeq (sSet 11 (eOp dAdd (eBlt dMax (aCons (eOp dAdd (eO (oLst (aCons (eC (.int 0)) aNil))) (eSlot 10)) aNil)) (eC (.int 3)))) (sSeq (sSet 12 (eO (oLc [13] (iRange1 (eOp dAdd (eSlot 11) (eC (.int 1)))) (gN 13) bYes (eBlt dLen (aCons (eO (oLc [17] (iRange1 (eBlt dLen (aCons (eSlot 2) aNil))) (gN 17) (bAnd (bV (eOp dLe (eOp dIx (eSlot 9) (eSlot 17)) (eSlot 13))) (bV (eOp dLt (eSlot 13) (eOp dIx (eSlot 10) (eSlot 17))))) (eSlot 17))) aNil))))) (sSeq (sSet 13 (eCallB 0 F__law_take (aCons (eOp dAdd (eSlot 11) (eC (.int 1))) aNil))) (sSeq (sIf (bOr (bV (eOp dNe (eBlt dRepr (aCons (eCall F_waiting_at (aCons (eSlot 1) (aCons (eSlot 2) (aCons (eSlot 3) (aCons (eSlot 4) (aCons (eSlot 13) aNil)))))) aNil)) (eBlt dRepr (aCons (eOp dIx (eSlot 12) (eSlot 13)) aNil)))) (bV (eOp dNe (eCall F_waiting_at (aCons (eSlot 1) (aCons (eSlot 2) (aCons (eSlot 3) (aCons (eSlot 4) (aCons (eOp dAdd (eSlot 11) (eC (.int 5000))) aNil)))))) (eC (.int 0))))) (sRet (eC (.bl false))) sNx) (sRet (eOp dEq (eBlt dRepr (aCons (eCall F_most_waiting (aCons (eSlot 1) (aCons (eSlot 2) (aCons (eSlot 3) (aCons (eSlot 4) aNil))))) aNil)) (eBlt dRepr (aCons (eTup (aCons (eBlt dMax (aCons (eSlot 12) aNil)) (aCons (eIndex (eSlot 12) (eBlt dMax (aCons (eSlot 12) aNil))) aNil))) aNil)))))))))))))))))
def F__law_right : FS := fun a => noX (fnSem 1 17 g__law_right a)
theorem sc__law_right : FnScope ["pot", "film", "lines", "delay", "gap", "lags", "due", "lag", "some", "known", "ons", "last", "counts", "tick", "one", "its", "show", "place"] ["pot"] (defScope s__law_right) := ⟨rfl, rfl, rfl, by decide +kernel, rfl, by decide +kernel, by decide +kernel⟩
theorem ok__law_right {P : Program} {w : World} {K : PySem.W.Frag} {mg : PySem.Str → Option Value} {base : Heap} {f : Addr} {fd : FuncData} (m_all : mg "all" = none) (m_len : mg "len" = none) (m_max : mg "max" = none) (m_range : mg "range" = none) (m_repr : mg "repr" = none) (C__law_take : Cal P w K mg base 1 "_law_take" 2 F__law_take) (C__law_live_lines : Cal P w K mg base 2 "_law_live_lines" 3 F__law_live_lines) (C__law_lags : Cal P w K mg base 2 "_law_lags" 3 F__law_lags) (C_worst_lag : Cal P w K mg base 9 "worst_lag" 4 F_worst_lag) (C__law_of : Cal P w K mg base 2 "_law_of" 2 F__law_of) (C_most_delay : Cal P w K mg base 8 "most_delay" 4 F_most_delay) (C__law_live : Cal P w K mg base 1 "_law_live" 3 F__law_live) (C__law_known : Cal P w K mg base 1 "_law_known" 2 F__law_known) (C_waiting_at : Cal P w K mg base 9 "waiting_at" 5 F_waiting_at) (C_most_waiting : Cal P w K mg base 9 "most_waiting" 4 F_most_waiting)
    (F : FunD K "_law_right" "_law_right" (defArgs s__law_right) (defBody s__law_right) (defScope s__law_right) [] [] f fd) : FnG P w K mg base CX0 (9 + 1) f fd ["pot"] (spF K mg F__law_right) := by
  have nd := sc__law_right.nd
  exact FnG.of_body F sc__law_right rfl rfl fun cdv A outer s H E hr hgd =>
    (sss_cons (ss_set 1 (ev_tup (av_cons (ev_op (w1 := false) (w2 := false) op_addA od_add ev_int (ev_callB 0 (C__law_take.mono (by decide)) hr hgd (av_cons ev_int av_nil))) (av_cons (ev_tup av_nil) av_nil))) nd) (sss_cons (ss_unp (ev_tup (av_cons (ev_callB 0 (C__law_live_lines.mono (by decide)) hr hgd (av_cons (ev_slot 1) (av_cons ev_int av_nil))) (av_cons (ev_callB 0 (C__law_take.mono (by decide)) hr hgd (av_cons ev_int av_nil)) (av_cons (ev_callB 0 (C__law_take.mono (by decide)) hr hgd (av_cons ev_int av_nil)) av_nil)))) (gv_tup rfl (gvs_cons (gv_name 2 nd) (gvs_cons (gv_name 3 nd) (gvs_cons (gv_name 4 nd) gvs_nil))) (gsCons_len (gsCons_len (gsCons_len gsNil_len))))) (sss_cons (ss_set 5 (ev_call (C__law_lags.mono (by decide)) hr hgd (av_cons (ev_slot 2) (av_cons (ev_slot 3) (av_cons (ev_slot 4) av_nil)))) nd) (sss_cons (ss_set 6 (ev_if (tv_cmp (w1 := false) (w2 := false) (op_neA hr.units) od_ne (ev_slot 5) (ev_o (eo_lst av_nil)) (nomark _)) (ev_tup (av_cons (ev_blt (w1 := false) (cr_maxA rfl) cd_max (av_cons (ev_slot 5) av_nil) rfl m_max) (av_cons (ev_index (w1 := false) (w2 := false) (ev_slot 5) (ev_blt (w1 := false) (cr_maxA rfl) cd_max (av_cons (ev_slot 5) av_nil) rfl m_max)) av_nil))) (ev_tup (av_cons ev_int (av_cons ev_non av_nil)))) nd) (sss_cons (ss_if (tv_cmp (w1 := false) (w2 := false) (op_neA hr.units) od_ne (ev_blt (w1 := false) (cr_repr hgd hr.units) cd_repr (av_cons (ev_call (C_worst_lag.mono (by decide)) hr hgd (av_cons (ev_slot 1) (av_cons (ev_slot 2) (av_cons (ev_slot 3) (av_cons (ev_slot 4) av_nil))))) av_nil) rfl m_repr) (ev_blt (w1 := false) (cr_repr hgd hr.units) cd_repr (av_cons (ev_slot 6) av_nil) rfl m_repr) (nomark _)) (sss_one (ss_ret ev_bl)) sss_nil) (sss_cons (ss_set 7 (ev_callB 0 (C__law_take.mono (by decide)) hr hgd (av_cons (ev_callB 0 (C__law_of.mono (by decide)) hr hgd (av_cons (ev_o (eo_lst (av_cons ev_int (av_cons ev_int av_nil)))) av_nil)) av_nil)) nd) (sss_cons (ss_setLcF 8 [("one", 14)] rfl nd (sw_true rfl rfl rfl (by kernel_rfl)) (iv_range1 rfl m_range ev_int) (blkOk_by (by kernel_rfl)) rfl (fun _ _ _ _ _ => (gv_name 14 nd)) (fun _ _ _ _ _ => (tsv_one (tv_val (w := false) (ev_blt (w1 := false) (cr_all rfl) cd_all (av_cons (ev_o (eo_lc [("its", 15)] rfl nd (iv_seq (w := false) (ev_call (C__law_lags.mono (by decide)) hr hgd (av_cons (ev_slot 2) (av_cons (ev_slot 14) (av_cons (ev_slot 4) av_nil))))) (blkOk_by (by kernel_rfl)) rfl (fun _ _ _ _ _ => (gv_name 15 nd)) (fun _ _ _ _ _ => tsv_nil) (fun _ _ _ _ _ => (ev_cmp (w1 := false) (w2 := false) op_le od_le (ev_slot 15) (ev_slot 7) (nomark _))))) av_nil) rfl m_all)))) (fun _ _ _ _ _ => (ev_slot 14))) (sss_cons (ss_if (tv_cmp (w1 := false) (w2 := false) (op_neA hr.units) od_ne (ev_blt (w1 := false) (cr_repr hgd hr.units) cd_repr (av_cons (ev_call (C_most_delay.mono (by decide)) hr hgd (av_cons (ev_slot 1) (av_cons (ev_slot 2) (av_cons (ev_slot 4) (av_cons (ev_slot 7) av_nil))))) av_nil) rfl m_repr) (ev_blt (w1 := false) (cr_repr hgd hr.units) cd_repr (av_cons (ev_if (tv_cmp (w1 := false) (w2 := false) (op_neA hr.units) od_ne (ev_slot 8) (ev_o (eo_lst av_nil)) (nomark _)) (ev_ix (w1 := false) (w2 := false) (ev_slot 8) (ev_un (w1 := false) un_neg ud_neg ev_int)) ev_non) av_nil) rfl m_repr) (nomark _)) (sss_one (ss_ret ev_bl)) sss_nil) (sss_cons (ss_unp (ev_tup (av_cons (ev_call (C__law_known.mono (by decide)) hr hgd (av_cons (ev_slot 2) (av_cons (ev_slot 3) av_nil))) (av_cons (ev_o (eo_lc [("show", 16)] rfl nd (iv_seq (w := false) (ev_call (C__law_live.mono (by decide)) hr hgd (av_cons (ev_slot 2) (av_cons (ev_slot 3) (av_cons (ev_slot 4) av_nil))))) (blkOk_by (by kernel_rfl)) rfl (fun _ _ _ _ _ => (gv_name 16 nd)) (fun _ _ _ _ _ => tsv_nil) (fun _ _ _ _ _ => (ev_ix (w1 := false) (w2 := false) (ev_slot 16) ev_int)))) av_nil))) (gv_tup rfl (gvs_cons (gv_name 9 nd) (gvs_cons (gv_name 10 nd) gvs_nil)) (gsCons_len (gsCons_len gsNil_len)))) (sss_cons (ss_set 11 (ev_op (w1 := false) (w2 := false) op_addA od_add (ev_blt (w1 := false) (cr_maxA rfl) cd_max (av_cons (ev_op (w1 := false) (w2 := false) op_addA od_add (ev_o (eo_lst (av_cons ev_int av_nil))) (ev_slot 10)) av_nil) rfl m_max) ev_int) nd) (sss_cons (ss_setLcF 12 [("tick", 13)] rfl nd (sw_true rfl rfl rfl (by kernel_rfl)) (iv_range1 rfl m_range (ev_op (w1 := false) (w2 := false) op_addA od_add (ev_slot 11) ev_int)) (blkOk_by (by kernel_rfl)) rfl (fun _ _ _ _ _ => (gv_name 13 nd)) (fun _ _ _ _ _ => tsv_nil) (fun _ _ _ _ _ => (ev_blt (w1 := false) cr_len cd_len (av_cons (ev_o (eo_lc [("place", 17)] rfl nd (iv_range1 rfl m_range (ev_blt (w1 := false) cr_len cd_len (av_cons (ev_slot 2) av_nil) rfl m_len)) (blkOk_by (by kernel_rfl)) rfl (fun _ _ _ _ _ => (gv_name 17 nd)) (fun _ _ _ _ _ => (tsv_one (TW.tv (tw_and (tv_cmp (w1 := false) (w2 := false) op_le od_le (ev_ix (w1 := false) (w2 := false) (ev_slot 9) (ev_slot 17)) (ev_slot 13) (nomark _)) (tw_and1 (tv_cmp (w1 := false) (w2 := false) op_lt od_lt (ev_slot 13) (ev_ix (w1 := false) (w2 := false) (ev_slot 10) (ev_slot 17)) (nomark _))))))) (fun _ _ _ _ _ => (ev_slot 17)))) av_nil) rfl m_len))) (sss_cons (ss_set 13 (ev_callB 0 (C__law_take.mono (by decide)) hr hgd (av_cons (ev_op (w1 := false) (w2 := false) op_addA od_add (ev_slot 11) ev_int) av_nil)) nd) (sss_cons (ss_if (TW.tv (tw_or (tv_cmp (w1 := false) (w2 := false) (op_neA hr.units) od_ne (ev_blt (w1 := false) (cr_repr hgd hr.units) cd_repr (av_cons (ev_call (C_waiting_at.mono (by decide)) hr hgd (av_cons (ev_slot 1) (av_cons (ev_slot 2) (av_cons (ev_slot 3) (av_cons (ev_slot 4) (av_cons (ev_slot 13) av_nil)))))) av_nil) rfl m_repr) (ev_blt (w1 := false) (cr_repr hgd hr.units) cd_repr (av_cons (ev_ix (w1 := false) (w2 := false) (ev_slot 12) (ev_slot 13)) av_nil) rfl m_repr) (nomark _)) (tw_or1 (tv_cmp (w1 := false) (w2 := false) (op_neA hr.units) od_ne (ev_call (C_waiting_at.mono (by decide)) hr hgd (av_cons (ev_slot 1) (av_cons (ev_slot 2) (av_cons (ev_slot 3) (av_cons (ev_slot 4) (av_cons (ev_op (w1 := false) (w2 := false) op_addA od_add (ev_slot 11) ev_int) av_nil)))))) ev_int (nomark _))))) (sss_one (ss_ret ev_bl)) sss_nil) (sss_one (ss_ret (ev_cmp (w1 := false) (w2 := false) (op_eqA hr.units) od_eq (ev_blt (w1 := false) (cr_repr hgd hr.units) cd_repr (av_cons (ev_call (C_most_waiting.mono (by decide)) hr hgd (av_cons (ev_slot 1) (av_cons (ev_slot 2) (av_cons (ev_slot 3) (av_cons (ev_slot 4) av_nil))))) av_nil) rfl m_repr) (ev_blt (w1 := false) (cr_repr hgd hr.units) cd_repr (av_cons (ev_tup (av_cons (ev_blt (w1 := false) (cr_maxA rfl) cd_max (av_cons (ev_slot 12) av_nil) rfl m_max) (av_cons (ev_index (w1 := false) (w2 := false) (ev_slot 12) (ev_blt (w1 := false) (cr_maxA rfl) cd_max (av_cons (ev_slot 12) av_nil) rfl m_max)) av_nil))) av_nil) rfl m_repr) (nomark _)))))))))))))))))
abbrev s_law : Stmt := topS 51
def g_law : List B → Fl :=
  (sSeq (sFor (iSeq (eCall F__law_cells (aCons (eSlot 0) (aCons (eC (.int 3)) aNil)))) (gN 1) (sSeq (sSetO 2 (oCall F__law_pot (aCons (eSlot 0) (aCons (eSlot 1) aNil)))) (sIf (bNot (bV (eBlt dAll (aCons (eO (oLc [3] (iRange1 (eC (.int 6))) (gN 3) bYes (eCallB 2 F__law_right aNil))) aNil)))) (sRet (eC (.bl false))) sNx))) (sRet (eC (.bl true))))
def F_law : FS := fun a => noX (fnSem 1 3 g_law a)
theorem sc_law : FnScope ["script", "place", "pot", "lap"] ["script"] (defScope s_law) := ⟨rfl, rfl, rfl, by decide +kernel, rfl, by decide +kernel, by decide +kernel⟩
theorem ok_law {P : Program} {w : World} {K : PySem.W.Frag} {mg : PySem.Str → Option Value} {base : Heap} {f : Addr} {fd : FuncData} (m_all : mg "all" = none) (m_range : mg "range" = none) (C__law_cells : Cal P w K mg base 1 "_law_cells" 2 F__law_cells) (C__law_pot : CalO P w K mg base 1 "_law_pot" 2 F__law_pot) (C__law_right : Cal P w K mg base 10 "_law_right" 1 F__law_right)
    (F : FunD K "law" "law" (defArgs s_law) (defBody s_law) (defScope s_law) [] [] f fd) : FnG P w K mg base CX0 (10 + 1) f fd ["script"] (spF K mg F_law) := by
  have nd := sc_law.nd
  exact FnG.of_body F sc_law rfl rfl fun cdv A outer s H E hr hgd =>
    (sss_cons (ss_for PassesOwn.never rfl (iv_seq (w := false) (ev_call (C__law_cells.mono (by decide)) hr hgd (av_cons (ev_slot 0) (av_cons ev_int av_nil)))) (gv_name 1 nd) (sss_cons (ss_setO 2 (eo_call (C__law_pot.mono (by decide)) hr hgd (av_cons (ev_slot 0) (av_cons (ev_slot 1) av_nil))) nd) (sss_one (ss_if (tv_not (tv_val (w := false) (ev_blt (w1 := false) (cr_all rfl) cd_all (av_cons (ev_o (eo_lc [("lap", 3)] rfl nd (iv_range1 rfl m_range ev_int) (blkOk_by (by kernel_rfl)) rfl (fun _ _ _ _ _ => (gv_name 3 nd)) (fun _ _ _ _ _ => tsv_nil) (fun _ _ _ _ _ => (ev_callB 2 (C__law_right.mono (by decide)) hr hgd av_nil)))) av_nil) rfl m_all))) (sss_one (ss_ret ev_bl)) sss_nil)))) (sss_one (ss_ret ev_bl)))
end My
namespace My
open PySem PySem.Spec PyProof.Rows L2 RT
theorem sz (n : Nat) (h : n ≤ 16777216) : n ≤ sizeLine := by rw [sizeLine_eq]; omega
@[simp] theorem sz0 : (0 : Nat) ≤ sizeLine := Nat.zero_le _
@[simp] theorem sz1 : (1 : Nat) ≤ sizeLine := by decide
@[simp] theorem sz2 : (2 : Nat) ≤ sizeLine := by decide
@[simp] theorem sz3 : (3 : Nat) ≤ sizeLine := by decide
@[simp] theorem sz5 : (5 : Nat) ≤ sizeLine := by decide
theorem e_is_integer (i : Int) : F_is_integer [.va (.int i)] = .ok (.bl true, [.va (.int i)]) := by
  simp [F_is_integer, fnSem, g_is_integer, mergeB]
theorem e_is_between (v lo hi : Int) : F_is_between [.va (.int v), .va (.int lo), .va (.int hi)] = .ok (.bl (decide (lo ≤ v) && decide (v ≤ hi)), [.va (.int v), .va (.int lo), .va (.int hi)]) := by
  by_cases h : lo ≤ v <;> simp [F_is_between, fnSem, g_is_between, mergeB, e_is_integer, h]
def PotOk (m : Nat) (ds : List D) : Prop := ∃ o s c : Int, ds = [.int o, .int s, .int c] ∧ 0 ≤ c ∧ c ≤ m ∧ 0 ≤ s ∧ s < 2 ^ 62
theorem bits_lt {i : Int} {b : Nat} (h : i.natAbs < 2 ^ b) (h0 : 0 < b) : Builtin.Int.intBits i ≤ b := by
  unfold Builtin.Int.intBits
  split
  · omega
  · have := PySem.Flt.log2_lt_of h0 h
    omega
theorem powW {i : Int} {b : Nat} {n : Int} (h : i.natAbs < 2 ^ b) (h0 : 0 < b) (hn : 0 ≤ n) (hb : (b : Int) * n ≤ 2 ^ 27) : CPowW i n := by
  refine ⟨hn, Int.le_trans (Int.mul_le_mul_of_nonneg_right (by have := bits_lt h h0; omega) hn) hb⟩
theorem mul_bits {i j : Int} {a b : Nat} (ha : i.natAbs < 2 ^ a) (hb : j.natAbs < 2 ^ b) : (i * j).natAbs < 2 ^ (a + b) := wide_lt ha hb
theorem e_take {m : Nat} {ds : List D} {u : Int} (hp : PotOk m ds) (hm : m < 2 ^ 40) (hu : 0 < u) (hu2 : u < 2 ^ 60) : ∃ v ds', 0 ≤ v ∧ v < u ∧ PotOk (m + 1) ds' ∧ F__law_take [.ow true ds, .va (.int u)] = .ok (.int v, [.ow true ds', .va (.int u)]) := by
  obtain ⟨o, s, c, rfl, hc, hcm, hs, hs2⟩ := hp
  have hdiv : CDivW o u := L2.wide_div hu (b := 60) (by omega) (by decide) (by decide)
  by_cases ho : 0 < o
  · refine ⟨o % u, [.int (o / u), .int s, .int c], Int.emod_nonneg _ (by omega), Int.emod_lt_of_pos _ hu, ⟨_, _, _, rfl, hc, by omega, hs, hs2⟩, ?_⟩
    simp [F__law_take, fnSem, g__law_take, mergeB, L2.ixN, ho, hu, hdiv]
  · have hc2 : (c + 1).natAbs < 2 ^ 41 := by omega
    have hp : ∃ p : Int, ((L2.ixN 5 ((c + 1) % 5)).bind fun j => [D.int 2147482063, D.int 2147482051, D.int 2147482021, D.int 2147481997, D.int 2147481967][j]?) = some (D.int p) ∧ 0 < p ∧ p < 2 ^ 31 := by
      have h5 : (c + 1) % 5 = 0 ∨ (c + 1) % 5 = 1 ∨ (c + 1) % 5 = 2 ∨ (c + 1) % 5 = 3 ∨ (c + 1) % 5 = 4 := by omega
      rcases h5 with h | h | h | h | h <;> rw [h] <;> refine ⟨_, rfl, by decide, by decide⟩
    obtain ⟨p, ep, hp0, hp1⟩ := hp
    have m1 : CMulW 70501 (c + 1) := wide_mul (a := 20) (b := 41) (by decide) hc2 (by decide) (by decide) (by decide)
    have b1 : (70501 * (c + 1)).natAbs < 2 ^ 61 := mul_bits (a := 20) (b := 41) (by decide) hc2
    have m2 : CMulW (70501 * (c + 1)) (c + 1) := wide_mul b1 hc2 (by decide) (by decide) (by decide)
    have b2 : (70501 * (c + 1) * (c + 1)).natAbs < 2 ^ 102 := mul_bits b1 hc2
    have b3 : (s + 70501 * (c + 1) * (c + 1) + 2203).natAbs < 2 ^ 103 := by omega
    have m3 : CPowW (s + 70501 * (c + 1) * (c + 1) + 2203) 3 := powW b3 (by decide) (by decide) (by decide)
    have m4 : CMulW 241 (c + 1) := wide_mul (a := 20) (b := 41) (by decide) hc2 (by decide) (by decide) (by decide)
    have b4 : (241 * (c + 1)).natAbs < 2 ^ 61 := mul_bits (a := 20) (b := 41) (by decide) hc2
    generalize hx : (s + 70501 * (c + 1) * (c + 1) + 2203) ^ 3 % p = x
    have hx1 : x.natAbs < 2 ^ 31 := by
      have := Int.emod_nonneg ((s + 70501 * (c + 1) * (c + 1) + 2203) ^ 3) (by omega : p ≠ 0)
      have := Int.emod_lt_of_pos ((s + 70501 * (c + 1) * (c + 1) + 2203) ^ 3) hp0
      omega
    have b5 : (x % 7907 + 241 * (c + 1)).natAbs < 2 ^ 62 := by omega
    have m5 : CMulW x (x % 7907 + 241 * (c + 1)) := wide_mul hx1 b5 (by decide) (by decide) (by decide)
    have d1 : ∀ z : Int, CDivW z 149 := fun z => L2.wide_div (b := 60) (by decide) (by decide) (by decide) (by decide)
    refine ⟨x * (x % 7907 + 241 * (c + 1)) % 2305843009213693907 / 149 % u, [.int o, .int s, .int (c + 1)], Int.emod_nonneg _ (by omega), Int.emod_lt_of_pos _ hu, ⟨_, _, _, rfl, by omega, by omega, hs, hs2⟩, ?_⟩
    simp [L2.ixN] at ep
    simp [F__law_take, fnSem, g__law_take, mergeB, L2.ixN, ho, hu, ep, m1, m2, m3, hp0, m4, hx, m5, d1]
theorem e_pot (ns : List Int) {k : Int} (h0 : 0 ≤ k) (h1 : k < 63) : ∃ ds, PotOk 0 ds ∧ F__law_pot [.lst (ns.map D.int), .int k] = .ok ds := by
  have cell : ∃ c : Int, (eIf (bV (eOp dLt (eSlot 1) (eBlt dLen (aCons (eSlot 0) aNil)))) (eOp dIx (eSlot 0) (eSlot 1)) (eOp dAdd (eOp dAdd (eOp dMod (eBlt dSum (aCons (eSl (eSlot 0) oNo (oAt (eC (.int 1)))) aNil)) (eC (.int 1000357))) (eOp dMul (eC (.int 4871)) (eSlot 1))) (eC (.int 773)))) [.va (.lst (ns.map D.int)), .va (.int k), .un, .un, .un] = .ok (.int c, [.va (.lst (ns.map D.int)), .va (.int k), .un, .un, .un]) := by
    by_cases hlt : k < ns.length
    · have e : ixN ns.length k = some k.toNat := by unfold ixN; rw [if_pos h0, if_pos hlt]
      have hk2 : k.toNat < ns.length := by omega
      exact ⟨ns[k.toNat], by simp [hlt, e, hk2]⟩
    · have m1 : CMulW 4871 k := wide_mul (a := 20) (b := 20) (by decide) (by omega) (by decide) (by decide) (by decide)
      have e : dSum [.lst (List.take 1 (List.map D.int ns))] = some (.int (ns.take 1).sum) := by rw [← List.map_take, r_sumL]
      exact ⟨(ns.take 1).sum % 1000357 + 4871 * k + 773, by simp [hlt, e, m1]⟩
  obtain ⟨c, hc⟩ := cell
  have p1 : CPowW 10 60 := powW (b := 4) (by decide) (by decide) (by decide) (by decide)
  have p2 : CPowW (10 ^ 60) 5 := powW (b := 200) (by decide +kernel) (by decide) (by decide) (by decide)
  have p3 : CPowW 10 18 := powW (b := 4) (by decide) (by decide) (by decide) (by decide)
  have p4 : (0 : Int) < (10 ^ 60) ^ 5 := by decide +kernel
  generalize ha : (if c < 0 then -c else c) = ab
  have hm : (ab % (10 ^ 60) ^ 5).natAbs < 2 ^ 1000 := by
    have h1 := Int.emod_nonneg ab (show ((10 : Int) ^ 60) ^ 5 ≠ 0 by omega)
    have h2 := Int.emod_lt_of_pos ab p4
    have h3 : ((10 : Int) ^ 60) ^ 5 < 2 ^ 1000 := by decide +kernel
    omega
  have m1 : ∀ b : Bool, CMulW (ab % (10 ^ 60) ^ 5) (if b = true then 1 else 0) := fun b => by
    refine wide_mul hm (b := 2) ?_ (by decide) (by decide) (by decide)
    cases b <;> decide
  generalize hs : c % 2305843009213693951 = sm
  have hs1 : sm.natAbs < 2 ^ 61 := by
    have h1 := Int.emod_nonneg c (show (2305843009213693951 : Int) ≠ 0 by decide)
    have h2 := Int.emod_lt_of_pos c (show (0 : Int) < 2305843009213693951 by decide)
    omega
  have m2 : CMulW sm 64613 := wide_mul hs1 (b := 20) (by decide) (by decide) (by decide) (by decide)
  have hk2 : k.natAbs < 2 ^ 6 := by omega
  have m3 : CMulW 7013 k := wide_mul (a := 20) (by decide) hk2 (by decide) (by decide) (by decide)
  have b3 : (7013 * k).natAbs < 2 ^ 26 := mul_bits (a := 20) (b := 6) (by decide) hk2
  have m4 : CMulW (7013 * k) k := wide_mul b3 hk2 (by decide) (by decide) (by decide)
  refine ⟨[.int (ab % (10 ^ 60) ^ 5 * (if decide ((10 : Int) ^ 18 ≤ ab) = true then 1 else 0)), .int ((sm * 64613 + 7013 * k * k + 929) % 2305843009213693921), .int 0], ⟨_, _, _, rfl, by decide, by decide, Int.emod_nonneg _ (by decide), by have := Int.emod_lt_of_pos (sm * 64613 + 7013 * k * k + 929) (show (0 : Int) < 2305843009213693921 by decide); omega⟩, ?_⟩
  have m1' := m1 (decide ((10 : Int) ^ 18 ≤ ab))
  simp only [decide_eq_true_eq] at m1'
  unfold F__law_pot fnSemO g__law_pot
  simp [-r_eIf, -Int.reducePow, hc, ha, hs, p1, p2, p3, p4, m1', m2, m3, m4]
end My
namespace My
open PySem PySem.Spec PyProof.Rows L2 RT
abbrev Ln := Int × Int × Int
def dLn (l : Ln) : D := .tup [.int l.1, .int l.2.1, .int l.2.2]
def dL (L : List Ln) : D := .tup (L.map dLn)
def dSh (p : Int × Int) : D := .tup [.int p.1, .int p.2]
def kn (d : Int) : Int → List Ln → List Int
  | _, [] => []
  | k, l :: L => max k (l.2.1 + d) :: kn d (max k (l.2.1 + d)) L
def live (d g : Int) : Int → Int → List Ln → List (Int × Int)
  | _, _, [] => []
  | k, t, l :: L => (max (max k (l.2.1 + d)) t, max (max k (l.2.1 + d)) t + l.2.2) :: live d g (max k (l.2.1 + d)) (max (max k (l.2.1 + d)) t + l.2.2 + g) L
theorem kn_length (d : Int) : ∀ (L : List Ln) (k : Int), (kn d k L).length = L.length
  | [], _ => rfl
  | l :: L, k => by simp [kn, kn_length d L]
theorem live_length (d g : Int) : ∀ (L : List Ln) (k t : Int), (live d g k t L).length = L.length
  | [], _, _ => rfl
  | l :: L, k, t => by simp [live, live_length d g L]
theorem ifmax (a b : Int) : (if b > a then b else a) = max a b := by split <;> omega
def stK (d : Int) (acc : List Int) (l : Ln) : List Int := acc ++ [match acc.getLast? with | none => l.2.1 + d | some k => max (l.2.1 + d) k]
theorem foldK (d : Int) : ∀ (L : List Ln) (acc : List Int) (k : Int), (∀ l ∈ L, 0 ≤ l.2.1 + d) → (acc.getLast? = none ∧ k = 0 ∨ acc.getLast? = some k) → L.foldl (stK d) acc = acc ++ kn d k L
  | [], acc, k, _, _ => by simp [kn]
  | l :: L, acc, k, h, hk => by
    have h0 := h l List.mem_cons_self
    have e : stK d acc l = acc ++ [max k (l.2.1 + d)] := by
      unfold stK
      rcases hk with ⟨e, rfl⟩ | e <;> rw [e]
      · simp; omega
      · simp; omega
    rw [List.foldl_cons, e, foldK d L _ (max k (l.2.1 + d)) (fun x hx => h x (List.mem_cons_of_mem _ hx)) (.inr (by simp))]
    simp [kn]
theorem last_drop (acc : List Int) : (acc.map D.int).drop (acc.map D.int |>.length |> (· - 1)) = (match acc.getLast? with | none => [] | some k => [D.int k]) := by
  cases h : acc.getLast? with
  | none => rw [List.getLast?_eq_none_iff.mp h]; rfl
  | some k =>
    obtain ⟨r, rfl⟩ := List.getLast?_eq_some_iff.mp h
    simp
theorem e_known_at {L : List Ln} {d : Int} (hl : L.length ≤ 1000) (h : ∀ l ∈ L, 0 ≤ l.2.1 + d) : F_known_at [.va (dL L), .va (.int d)] = .ok (.lst ((kn d 0 L).map D.int), [.va (dL L), .va (.int d)]) := by
  obtain ⟨ρ', h1, h2⟩ := forGo_n (tg := gN 3) (body := (sDo (eApp 2 (eBlt dMax (aCons (eO (oLst (aCons (eOp dAdd (eOp dIx (eSlot 3) (eC (.int 1))) (eSlot 1)) (aStar (eSl (eSlotW 2) (oAt (eUn dNeg (eC (.int 1)))) oNo) aNil)))) aNil)))))
    (fun k acc ρ => ∃ j, ρ = [.va (dL L), .va (.int d), .ow false (acc.map D.int), j] ∧ acc.length = k) dLn (stK d) L 0 [] [.va (dL L), .va (.int d), .ow false [], .un] ⟨_, rfl, rfl⟩ (by
      rintro a ha k acc ρ hk ⟨j, rfl, e⟩
      refine ⟨_, [.va (dL L), .va (.int d), .ow false ((stK d acc a).map D.int), .va (dLn a)], rfl, ?_, .va (dLn a), rfl, by simp [stK, e]⟩
      have hz : acc.length < sizeLine := by rw [sizeLine_eq]; omega
      have e2 := last_drop acc
      simp at e2
      cases hq : acc.getLast? with
      | none =>
        rw [hq] at e2
        simp [dLn, L2.ixN, e2, dMax, intsD, maxL, hz, stK, hq]
      | some k =>
        rw [hq] at e2
        simp [dLn, L2.ixN, e2, dMax, intsD, maxL, hz, stK, hq, ifmax])
  obtain ⟨j, rfl, e⟩ := h2
  rw [foldK d L [] 0 h (.inl ⟨rfl, rfl⟩)] at h1 e
  simp [F_known_at, fnSem, g_known_at, mergeB]
  simp [dL] at h1 ⊢
  rw [h1]
  simp [mergeB]
def stS (g : Int) (s : List (Int × Int) × Int) (p : Ln × Int) : List (Int × Int) × Int := (s.1 ++ [(max p.2 s.2, max p.2 s.2 + p.1.2.2)], max p.2 s.2 + p.1.2.2 + g)
theorem foldS (d g : Int) : ∀ (L : List Ln) (k t : Int) (acc : List (Int × Int)), ((L.zip (kn d k L)).foldl (stS g) (acc, t)).1 = acc ++ live d g k t L
  | [], k, t, acc => by simp [kn, live]
  | l :: L, k, t, acc => by
    rw [kn, List.zip_cons_cons, List.foldl_cons]
    have := foldS d g L (max k (l.2.1 + d)) (max (max k (l.2.1 + d)) t + l.2.2 + g) (acc ++ [(max (max k (l.2.1 + d)) t, max (max k (l.2.1 + d)) t + l.2.2)])
    rw [show stS g (acc, t) (l, max k (l.2.1 + d)) = (acc ++ [(max (max k (l.2.1 + d)) t, max (max k (l.2.1 + d)) t + l.2.2)], max (max k (l.2.1 + d)) t + l.2.2 + g) from rfl, this, live]
    simp
theorem ifmax' (a b : Int) : (if b > a then b else a) = max a b := ifmax a b
theorem e_shows_by {L : List Ln} {d g : Int} (hl : L.length ≤ 1000) (h : ∀ l ∈ L, 0 ≤ l.2.1 + d) : F_shows_by [.va (dL L), .va (.int d), .va (.int g)] = .ok (.lst ((live d g 0 0 L).map dSh), [.va (dL L), .va (.int d), .va (.int g)]) := by
  obtain ⟨ρ', h1, h2⟩ := forGo_n (tg := (gT (gsCons (gN 5) (gsCons (gN 6) gsNil)))) (body := (sSeq (sSet 7 (eBlt dMax (aCons (eSlot 6) (aCons (eSlot 4) aNil)))) (sSeq (sDo (eApp 3 (eTup (aCons (eSlot 7) (aCons (eOp dAdd (eSlot 7) (eOp dIx (eSlot 5) (eC (.int 2)))) aNil))))) (sSet 4 (eOp dAdd (eOp dAdd (eSlot 7) (eOp dIx (eSlot 5) (eC (.int 2)))) (eSlot 2))))))
    (fun k (s : List (Int × Int) × Int) ρ => ∃ j1 j2 j3, ρ = [.va (dL L), .va (.int d), .va (.int g), .ow false (s.1.map dSh), .va (.int s.2), j1, j2, j3] ∧ s.1.length = k) (fun p : Ln × Int => .tup [dLn p.1, .int p.2]) (stS g) (L.zip (kn d 0 L)) 0 ([], 0) [.va (dL L), .va (.int d), .va (.int g), .ow false [], .va (.int 0), .un, .un, .un] ⟨_, _, _, rfl, rfl⟩ (by
      rintro ⟨l, kk⟩ ha k ⟨acc, t⟩ ρ hk ⟨j1, j2, j3, rfl, e⟩
      have hz : acc.length < sizeLine := by
        rw [sizeLine_eq]
        simp [kn_length] at hk
        have e : acc.length = k := e
        omega
      refine ⟨[(5, dLn l), (6, .int kk)], [.va (dL L), .va (.int d), .va (.int g), .ow false ((stS g (acc, t) (l, kk)).1.map dSh), .va (.int (stS g (acc, t) (l, kk)).2), .va (dLn l), .va (.int kk), .va (.int (max kk t))], rfl, ?_, _, _, _, rfl, by simp [stS]; exact e⟩
      simp [dLn, L2.ixN, hz, stS, ifmax, dSh])
  obtain ⟨j1, j2, j3, rfl, e⟩ := h2
  rw [foldS] at h1
  simp [F_shows_by, fnSem, g_shows_by, mergeB, e_known_at hl h]
  simp [dL, e_known_at hl h, zipD_map] at h1 ⊢
  have e2 := e_known_at hl h
  simp [dL] at e2
  simp [e2, zipD_map, h1, mergeB]
end My
namespace My
open PySem PySem.Spec PyProof.Rows L2 RT
def lagsOf (d g : Int) (L : List Ln) : List Int := (L.zip (live d g 0 0 L)).map fun p => p.2.1 - p.1.1
theorem lags_length (d g : Int) (L : List Ln) : (lagsOf d g L).length = L.length := by simp [lagsOf, live_length]
theorem szL {L : List Ln} (hl : L.length ≤ 1000) : L.length ≤ sizeLine := by rw [sizeLine_eq]; omega
def stV (d g : Int) (s : List (Int × Int) × Int × Int) (l : Ln) : List (Int × Int) × Int × Int :=
  (s.1 ++ [(max (max s.2.1 (l.2.1 + d)) s.2.2, max (max s.2.1 (l.2.1 + d)) s.2.2 + l.2.2)], max s.2.1 (l.2.1 + d), max (max s.2.1 (l.2.1 + d)) s.2.2 + l.2.2 + g)
theorem foldV (d g : Int) : ∀ (L : List Ln) (k t : Int) (acc : List (Int × Int)), (L.foldl (stV d g) (acc, k, t)).1 = acc ++ live d g k t L
  | [], k, t, acc => by simp [live]
  | l :: L, k, t, acc => by
    rw [List.foldl_cons]
    have := foldV d g L (max k (l.2.1 + d)) (max (max k (l.2.1 + d)) t + l.2.2 + g) (acc ++ [(max (max k (l.2.1 + d)) t, max (max k (l.2.1 + d)) t + l.2.2)])
    rw [show stV d g (acc, k, t) l = (acc ++ [(max (max k (l.2.1 + d)) t, max (max k (l.2.1 + d)) t + l.2.2)], max k (l.2.1 + d), max (max k (l.2.1 + d)) t + l.2.2 + g) from rfl, this, live]
    simp
theorem e_law_live {L : List Ln} {d g : Int} (hl : L.length ≤ 1000) : F__law_live [.va (dL L), .va (.int d), .va (.int g)] = .ok (.lst ((live d g 0 0 L).map dSh), [.va (dL L), .va (.int d), .va (.int g)]) := by
  obtain ⟨ρ', h1, h2⟩ := forGo_n (tg := (gT (gsCons (gN 6) (gsCons (gN 7) (gsCons (gN 8) gsNil))))) (body := (sSeq (sSet 4 (eBlt dMax (aCons (eSlot 4) (aCons (eOp dAdd (eSlot 7) (eSlot 1)) aNil)))) (sSeq (sSet 9 (eIf (bV (eOp dGt (eSlot 4) (eSlot 5))) (eSlot 4) (eSlot 5))) (sSeq (sDo (eApp 3 (eTup (aCons (eSlot 9) (aCons (eOp dAdd (eSlot 9) (eSlot 8)) aNil))))) (sSet 5 (eOp dAdd (eOp dAdd (eSlot 9) (eSlot 8)) (eSlot 2)))))))
    (fun k (s : List (Int × Int) × Int × Int) ρ => ∃ j1 j2 j3 j4, ρ = [.va (dL L), .va (.int d), .va (.int g), .ow false (s.1.map dSh), .va (.int s.2.1), .va (.int s.2.2), j1, j2, j3, j4] ∧ s.1.length = k) dLn (stV d g) L 0 ([], 0, 0) [.va (dL L), .va (.int d), .va (.int g), .ow false [], .va (.int 0), .va (.int 0), .un, .un, .un, .un] ⟨_, _, _, _, rfl, rfl⟩ (by
      rintro ⟨ls, le, ln⟩ ha k ⟨acc, kk, t⟩ ρ hk ⟨j1, j2, j3, j4, rfl, e⟩
      have hz : acc.length < sizeLine := by
        rw [sizeLine_eq]
        have e : acc.length = k := e
        omega
      refine ⟨[(6, .int ls), (7, .int le), (8, .int ln)], [.va (dL L), .va (.int d), .va (.int g), .ow false ((stV d g (acc, kk, t) (ls, le, ln)).1.map dSh), .va (.int (max kk (le + d))), .va (.int (max (max kk (le + d)) t + ln + g)), .va (.int ls), .va (.int le), .va (.int ln), .va (.int (max (max kk (le + d)) t))], rfl, ?_, _, _, _, _, rfl, by simp [stV]; exact e⟩
      by_cases hc : t < max kk (le + d)
      · have e3 : max (max kk (le + d)) t = max kk (le + d) := by omega
        simp [hz, stV, ifmax, dSh, hc, e3]
      · have e3 : max (max kk (le + d)) t = t := by omega
        simp [hz, stV, ifmax, dSh, hc, e3])
  obtain ⟨j1, j2, j3, j4, rfl, e⟩ := h2
  rw [foldV] at h1
  simp [F__law_live, fnSem, g__law_live, mergeB]
  simp [dL] at h1 ⊢
  simp [h1, mergeB]
theorem e_lags_of {L : List Ln} {d g : Int} (hl : L.length ≤ 1000) (h : ∀ l ∈ L, 0 ≤ l.2.1 + d) : F_lags_of [.va (dL L), .va (.int d), .va (.int g)] = .ok (.lst ((lagsOf d g L).map D.int), [.va (dL L), .va (.int d), .va (.int g)]) := by
  have h1 := oLc_map (vs := [3, 4]) (it := (iZip' (eSlot 0) (eCall F_shows_by (aCons (eSlot 0) (aCons (eSlot 1) (aCons (eSlot 2) aNil)))))) (tg := (gT (gsCons (gN 3) (gsCons (gN 4) gsNil)))) (te := (eOp dSub (eOp dIx (eSlot 4) (eC (.int 0))) (eOp dIx (eSlot 3) (eC (.int 0)))))
    (ρ := [.va (dL L), .va (.int d), .va (.int g), .un, .un]) (ρ1 := [.va (dL L), .va (.int d), .va (.int g), .un, .un]) (L.zip (live d g 0 0 L)) (fun p => .tup [dLn p.1, dSh p.2]) (fun p => .int (p.2.1 - p.1.1))
    (by simp [e_shows_by hl h]; simp [dL, zipD_map]) (by rfl) (by
      rintro ⟨l, s⟩ _
      exact ⟨[(3, dLn l), (4, dSh s)], rfl, by simp, by simp [dLn, dSh, L2.ixN]⟩) (by simp [live_length]; exact szL hl)
  simp [F_lags_of, fnSem, g_lags_of, mergeB, h1, lagsOf]
theorem e_law_lags {L : List Ln} {d g : Int} (hl : L.length ≤ 1000) : F__law_lags [.va (dL L), .va (.int d), .va (.int g)] = .ok (.lst ((lagsOf d g L).map D.int), [.va (dL L), .va (.int d), .va (.int g)]) := by
  have h1 := oLc_map (vs := [3, 4]) (it := (iZip' (eSlot 0) (eCall F__law_live (aCons (eSlot 0) (aCons (eSlot 1) (aCons (eSlot 2) aNil)))))) (tg := (gT (gsCons (gN 3) (gsCons (gN 4) gsNil)))) (te := (eOp dSub (eOp dIx (eSlot 4) (eC (.int 0))) (eOp dIx (eSlot 3) (eC (.int 0)))))
    (ρ := [.va (dL L), .va (.int d), .va (.int g), .un, .un]) (ρ1 := [.va (dL L), .va (.int d), .va (.int g), .un, .un]) (L.zip (live d g 0 0 L)) (fun p => .tup [dLn p.1, dSh p.2]) (fun p => .int (p.2.1 - p.1.1))
    (by simp [e_law_live hl]; simp [dL, zipD_map]) (by rfl) (by
      rintro ⟨l, s⟩ _
      exact ⟨[(3, dLn l), (4, dSh s)], rfl, by simp, by simp [dLn, dSh, L2.ixN]⟩) (by simp [live_length]; exact szL hl)
  simp [F__law_lags, fnSem, g__law_lags, mergeB, h1, lagsOf]
structure OkL (n : Int) (L : List Ln) : Prop where
  len : L.length ≤ 30
  each : ∀ l ∈ L, 0 ≤ l.1 ∧ l.1 < l.2.1 ∧ l.2.1 ≤ n ∧ 0 < l.2.2 ∧ l.2.2 ≤ 400
  asc : ∀ p ∈ L.zip (L.tail), p.1.1 ≤ p.2.1
def film (n : Int) : D := .tup [.int n, .tup []]
theorem e_are_between_nil (lo hi : Int) : F_are_between [.va (.tup []), .va (.int lo), .va (.int hi)] = .ok (.bl true, [.va (.tup []), .va (.int lo), .va (.int hi)]) := by
  simp [F_are_between, fnSem, g_are_between, mergeB, oLc, lcGo, noOw, isOw, kindB, dAll, boolsD]
theorem e_are_between3 (a b c lo hi : Int) : F_are_between [.va (.tup [.int a, .int b, .int c]), .va (.int lo), .va (.int hi)] = .ok (.bl ((decide (lo ≤ a) && decide (a ≤ hi)) && (decide (lo ≤ b) && decide (b ≤ hi)) && (decide (lo ≤ c) && decide (c ≤ hi))), [.va (.tup [.int a, .int b, .int c]), .va (.int lo), .va (.int hi)]) := by
  have s3 : (0 : Nat) < sizeLine := by decide
  have s4 : (1 : Nat) < sizeLine := by decide
  have s5 : (2 : Nat) < sizeLine := by decide
  simp [F_are_between, fnSem, g_are_between, mergeB, oLc, lcGo, noOw, isOw, kindB, dAll, boolsD, e_is_between, s3, s4, s5, Bool.and_assoc]
theorem e_is_ascending_nil : F_is_ascending [.va (.tup [])] = .ok (.bl true, [.va (.tup [])]) := by
  simp [F_is_ascending, fnSem, g_is_ascending, mergeB, oLc, lcGo, noOw, isOw, kindB, dAll, boolsD, zipD]
theorem e_is_film {n : Int} (h1 : 1 ≤ n) (h2 : n ≤ 400) : F_is_film [.va (film n)] = .ok (.bl true, [.va (film n)]) := by
  simp [F_is_film, fnSem, g_is_film, mergeB, film, L2.ixN, e_is_between, h1, h2, e_are_between_nil, e_is_ascending_nil]
theorem e_check_film {n : Int} (h1 : 1 ≤ n) (h2 : n ≤ 400) : F_check_film [.va (film n)] = .ok (.non, [.va (film n)]) := by
  simp [F_check_film, fnSem, g_check_film, mergeB, e_is_film h1 h2]
theorem e_is_line {n : Int} {l : Ln} (hn : n ≤ 400) (h : 0 ≤ l.1 ∧ l.1 < l.2.1 ∧ l.2.1 ≤ n ∧ 0 < l.2.2 ∧ l.2.2 ≤ 400) : F_is_line [.va (.int n), .va (dLn l)] = .ok (.bl true, [.va (.int n), .va (dLn l)]) := by
  obtain ⟨a, b, c⟩ := l
  obtain ⟨h1, h2, h3, h4, h5⟩ := h
  simp only at h1 h2 h3 h4 h5
  have b1 : a ≤ 400 := by omega
  have b2 : 0 ≤ b := by omega
  have b3 : b ≤ 400 := by omega
  have b4 : 0 ≤ c := by omega
  simp [F_is_line, fnSem, g_is_line, mergeB, dLn, L2.ixN, e_are_between3, h1, h2, h3, h4, h5, b1, b2, b3, b4]
theorem e_are_lines_of {n : Int} {L : List Ln} (hn : n ≤ 400) (h : OkL n L) : F_are_lines_of [.va (.int n), .va (dL L)] = .ok (.bl true, [.va (.int n), .va (dL L)]) := by
  have hz : L.length ≤ sizeLine := by rw [sizeLine_eq]; have := h.len; omega
  have hl : L.length ≤ 30 := h.len
  have hl2 : ¬ (30 < (L.length : Int)) := by omega
  have h1 := oLc_map (vs := [2]) (it := (iSeq (eSlot 1))) (tg := (gN 2)) (te := (eCall F_is_line (aCons (eSlot 0) (aCons (eSlot 2) aNil))))
    (ρ := [.va (.int n), .va (dL L), .un, .un, .un]) (ρ1 := [.va (.int n), .va (dL L), .un, .un, .un]) L dLn (fun _ => .bl true)
    (by simp [dL]) (by rfl) (by
      intro l hl
      exact ⟨[(2, dLn l)], rfl, by simp, by simp [e_is_line hn (h.each l hl)]⟩) hz
  have h2 := oLc_map (vs := [3, 4]) (it := (iZip' (eSlot 1) (eSl (eSlot 1) (oAt (eC (.int 1))) oNo))) (tg := (gT (gsCons (gN 3) (gsCons (gN 4) gsNil)))) (te := (eOp dLe (eOp dIx (eSlot 3) (eC (.int 0))) (eOp dIx (eSlot 4) (eC (.int 0)))))
    (ρ := [.va (.int n), .va (dL L), .un, .un, .un]) (ρ1 := [.va (.int n), .va (dL L), .un, .un, .un]) (L.zip (L.tail)) (fun p => .tup [dLn p.1, dLn p.2]) (fun p => .bl true)
    (by simp [dL]; rw [← List.map_tail, zipD_map]) (by rfl) (by
      rintro ⟨l, m⟩ hp
      have := h.asc _ hp
      simp only at this
      exact ⟨[(3, dLn l), (4, dLn m)], rfl, by simp, by simp [dLn, L2.ixN, this]⟩) (by simp; omega)
  have a1 : dAll [.lst (L.map fun _ => D.bl true)] = some (.bl true) := by rw [r_allA L fun _ => true]; simp
  have a2 : dAll [.lst ((L.zip (L.tail)).map fun _ => D.bl true)] = some (.bl true) := by rw [r_allA _ fun _ => true]; simp
  have e1 : dLen [dL L] = some (.int L.length) := by simp [dL]
  have e2 : dIsi "tuple" (dL L) = some (.bl true) := by simp [dL]
  simp only [F_are_lines_of, fnSem, g_are_lines_of]
  simp [mergeB, h1, h2, a1, a2, e1, e2, hl2]
end My
namespace My
open PySem PySem.Spec PyProof.Rows L2 RT
theorem OkL.l1000 {n : Int} {L : List Ln} (h : OkL n L) : L.length ≤ 1000 := by have := h.len; omega
theorem OkL.pos {n d : Int} {L : List Ln} (h : OkL n L) (hd : 0 ≤ d) : ∀ l ∈ L, 0 ≤ l.2.1 + d := fun l hl => by have := h.each l hl; omega
@[simp] theorem ix0 (n : Int) (L : List D) (h : 0 < L.length) : True := trivial
theorem film0 (n : Int) : dIx (film n) (.int 0) = some (.int n) := by simp [film, L2.ixN]
theorem film1 (n : Int) : dIx (film n) (.int 1) = some (.tup []) := by simp [film, L2.ixN]
variable {n d g : Int} {L : List Ln}
theorem e_check_lines (h1 : 1 ≤ n) (h2 : n ≤ 400) (h : OkL n L) : F_check_lines [.va (film n), .va (dL L)] = .ok (.non, [.va (film n), .va (dL L)]) := by
  simp [F_check_lines, fnSem, g_check_lines, mergeB, e_check_film h1 h2, film0, e_are_lines_of h2 h]
theorem e_check_whole (h1 : 1 ≤ n) (h2 : n ≤ 400) (h : OkL n L) : F_check_whole [.va (film n), .va (dL L)] = .ok (.non, [.va (film n), .va (dL L)]) := by
  simp [F_check_whole, fnSem, g_check_whole, mergeB, e_check_film h1 h2, film1, e_check_lines h1 h2 h]
theorem e_check_gap (h1 : 0 ≤ g) (h2 : g ≤ 100) : F_check_gap [.va (.int g)] = .ok (.non, [.va (.int g)]) := by
  simp [F_check_gap, fnSem, g_check_gap, mergeB, e_is_between, h1, h2]
theorem e_check_lag (h1 : 0 ≤ g) (h2 : g ≤ 2000) : F_check_lag [.va (.int g)] = .ok (.non, [.va (.int g)]) := by
  simp [F_check_lag, fnSem, g_check_lag, mergeB, e_is_between, h1, h2]
structure OkA (n d g : Int) (L : List Ln) : Prop where
  n1 : 1 ≤ n
  n2 : n ≤ 400
  d1 : 0 ≤ d
  d2 : d ≤ 100
  g1 : 0 ≤ g
  g2 : g ≤ 100
  ok : OkL n L
theorem e_check_live (a : OkA n d g L) : F_check_live [.va (film n), .va (dL L), .va (.int d), .va (.int g)] = .ok (.non, [.va (film n), .va (dL L), .va (.int d), .va (.int g)]) := by
  simp [F_check_live, fnSem, g_check_live, mergeB, e_check_whole a.n1 a.n2 a.ok, e_is_between, e_check_gap a.g1 a.g2, a.d1, a.d2]
def worst (ls : List Int) : D := match maxL ls with
  | none => .tup [.int 0, .non]
  | some m => .tup [.int m, .int ((findI m ls).getD 0 : Nat)]
theorem maxL_some : ∀ {ls : List Int}, ls ≠ [] → ∃ m, maxL ls = some m
  | [], h => absurd rfl h
  | a :: l, _ => ⟨_, rfl⟩
theorem fold_mem : ∀ (l : List Int) (a : Int), l.foldl (fun a b => if b > a then b else a) a = a ∨ l.foldl (fun a b => if b > a then b else a) a ∈ l
  | [], a => .inl rfl
  | b :: l, a => by
    rw [List.foldl_cons]
    rcases fold_mem l (if b > a then b else a) with h | h
    · rw [h]
      split
      · exact .inr List.mem_cons_self
      · exact .inl rfl
    · exact .inr (List.mem_cons_of_mem _ h)
theorem fold_ge : ∀ (l : List Int) (a : Int), a ≤ l.foldl (fun a b => if b > a then b else a) a ∧ ∀ x ∈ l, x ≤ l.foldl (fun a b => if b > a then b else a) a
  | [], a => ⟨Int.le_refl _, fun x h => nomatch h⟩
  | b :: l, a => by
    rw [List.foldl_cons]
    obtain ⟨h1, h2⟩ := fold_ge l (if b > a then b else a)
    have h3 : a ≤ (if b > a then b else a) ∧ b ≤ (if b > a then b else a) := by split <;> omega
    refine ⟨Int.le_trans h3.1 h1, fun x hx => ?_⟩
    rcases List.mem_cons.mp hx with e | e
    · rw [e]; exact Int.le_trans h3.2 h1
    · exact h2 x e
theorem maxL_mem {ls : List Int} {m : Int} (h : maxL ls = some m) : m ∈ ls ∧ ∀ x ∈ ls, x ≤ m := by
  cases ls with
  | nil => cases h
  | cons a l =>
    cases h
    obtain ⟨h1, h2⟩ := fold_ge l a
    refine ⟨?_, fun x hx => ?_⟩
    · rcases fold_mem l a with e | e
      · rw [e]; exact List.mem_cons_self
      · exact List.mem_cons_of_mem _ e
    · rcases List.mem_cons.mp hx with e | e
      · rw [e]; exact h1
      · exact h2 x e
theorem findI_mem {i : Int} : ∀ {l : List Int}, i ∈ l → ∃ n, findI i l = some n
  | j :: r, h => by
    unfold findI
    by_cases e : j == i
    · exact ⟨0, by rw [if_pos e]⟩
    · rw [if_neg e]
      rcases List.mem_cons.mp h with q | q
      · exact absurd (by rw [q]; simp) e
      · obtain ⟨n, hn⟩ := findI_mem q
        exact ⟨n + 1, by rw [hn]; rfl⟩
theorem ixI (ls : List Int) (m : Int) : dIndex (.lst (ls.map D.int)) (.int m) = (findI m ls).map fun (n : Nat) => D.int n := by
  show ((intsD (ls.map D.int)).bind (findI m)).map _ = _
  rw [intsD_map]
  rfl
theorem worst_eq (ls : List Int) (h : ls ≠ []) : ∃ (m : Int) (k : Nat), maxL ls = some m ∧ findI m ls = some k ∧ worst ls = .tup [.int m, .int k] := by
  obtain ⟨m, hm⟩ := maxL_some h
  obtain ⟨k, hk⟩ := findI_mem (maxL_mem hm).1
  exact ⟨m, k, hm, hk, by simp [worst, hm, hk]⟩
theorem e_worst_lag (a : OkA n d g L) : F_worst_lag [.va (film n), .va (dL L), .va (.int d), .va (.int g)] = .ok (worst (lagsOf d g L), [.va (film n), .va (dL L), .va (.int d), .va (.int g)]) := by
  have h1 := e_lags_of (g := g) a.ok.l1000 (a.ok.pos a.d1)
  by_cases he : lagsOf d g L = []
  · have e2 := ne_nil (lagsOf d g L)
    rw [he] at e2 h1
    simp at e2 h1
    simp [F_worst_lag, fnSem, g_worst_lag, mergeB, e_check_live a, h1, e2, he, worst, maxL]
  · obtain ⟨m, k, hm, hk, hw⟩ := worst_eq _ he
    have e2 := ne_nil (lagsOf d g L)
    have e0 : (lagsOf d g L).isEmpty = false := by
      cases h : lagsOf d g L with
      | nil => exact absurd h he
      | cons _ _ => rfl
    rw [e0] at e2
    simp [F_worst_lag, fnSem, g_worst_lag, mergeB, e_check_live a, h1, e2, hw, r_maxL, hm, ixI, hk]
def fits (g lag : Int) (L : List Ln) (d : Int) : Bool := (lagsOf d g L).all fun x => decide (x ≤ lag)
def delays (g lag : Int) (L : List Ln) : List Int := ((List.range 101).map fun (i : Nat) => (i : Int)).filter (fits g lag L)
def lastD (ls : List Int) : D := match ls.getLast? with
  | none => .non
  | some x => .int x
theorem rg101 : rangeD 0 101 = some ((List.range 101).map fun (i : Nat) => D.int (i : Int)) := by
  unfold rangeD
  rw [if_pos (by decide)]
  simp
theorem rg101' : ((List.range 101).map fun (i : Nat) => D.int (i : Int)) = ((List.range 101).map fun (i : Nat) => (i : Int)).map D.int := by simp
theorem last_ix (ls : List Int) {x : Int} (h : ls.getLast? = some x) : dIx (.lst (ls.map D.int)) (.int (-1)) = some (.int x) := by
  obtain ⟨r, rfl⟩ := List.getLast?_eq_some_iff.mp h
  have e : ixN (List.map D.int (r ++ [x])).length (-1) = some r.length := by
    simp [ixN]
    omega
  rw [r_ixL, e]
  simp
theorem e_fits (hl : L.length ≤ 1000) {ρ1 : List B} {f : ES} {lag : Int} {is : Nat} (hf : f (ρ1) = .ok (.lst ((lagsOf d g L).map D.int), ρ1)) : True := trivial
theorem e_most_delay {lag : Int} (a : OkA n 0 g L) (h1 : 0 ≤ lag) (h2 : lag ≤ 2000) : F_most_delay [.va (film n), .va (dL L), .va (.int g), .va (.int lag)] = .ok (lastD (delays g lag L), [.va (film n), .va (dL L), .va (.int g), .va (.int lag)]) := by
  have k1 := oLc_pure (vs := [5]) (it := (iRange1 (eOp dAdd (eC (.int 100)) (eC (.int 1))))) (tg := (gN 5)) (tt := (bV (eBlt dAll (aCons (eO (oLc [6] (iSeq (eCall F_lags_of (aCons (eSlot 1) (aCons (eSlot 5) (aCons (eSlot 2) aNil))))) (gN 6) bYes (eOp dLe (eSlot 6) (eSlot 3)))) aNil)))) (te := (eSlot 5))
    (ρ := [.va (film n), .va (dL L), .va (.int g), .va (.int lag), .un, .un, .un]) (ρ1 := [.va (film n), .va (dL L), .va (.int g), .va (.int lag), .un, .un, .un]) ((List.range 101).map fun (i : Nat) => (i : Int)) D.int (fits g lag L) D.int
    (by simp [rg101]) (by rfl) (by
      intro x hx
      have hx0 : 0 ≤ x := by simp at hx; obtain ⟨k, _, rfl⟩ := hx; omega
      have q := oLc_map (vs := [6]) (it := (iSeq (eCall F_lags_of (aCons (eSlot 1) (aCons (eSlot 5) (aCons (eSlot 2) aNil)))))) (tg := (gN 6)) (te := (eOp dLe (eSlot 6) (eSlot 3)))
        (ρ := [.va (film n), .va (dL L), .va (.int g), .va (.int lag), .un, .va (.int x), .un]) (ρ1 := [.va (film n), .va (dL L), .va (.int g), .va (.int lag), .un, .va (.int x), .un]) (lagsOf x g L) D.int (fun y => .bl (decide (y ≤ lag)))
        (by simp [e_lags_of a.ok.l1000 (a.ok.pos hx0)]) (by rfl) (by
          intro y _
          exact ⟨[(6, .int y)], rfl, by simp, by simp⟩) (by rw [lags_length]; exact szL a.ok.l1000)
      exact ⟨[(5, .int x)], rfl, by simp, by simp [q, r_allA, fits], by simp⟩) (by simp; decide)
  have e2 := ne_nil (delays g lag L)
  have k1 : oLc [5] _ _ _ _ _ = .ok ((delays g lag L).map D.int, _) := k1
  cases hq : (delays g lag L).getLast? with
  | none =>
    have he := List.getLast?_eq_none_iff.mp hq
    rw [he] at k1 e2
    have k1 : oLc [5] _ _ _ _ _ = .ok ([], _) := k1
    have e2 : dNe (.lst []) (.lst []) = some (.bl false) := e2
    simp [F_most_delay, fnSem, g_most_delay, mergeB, e_check_whole a.n1 a.n2 a.ok, e_check_gap a.g1 a.g2, e_check_lag h1 h2, k1, e2, lastD, hq]
  | some x =>
    have he : (delays g lag L).isEmpty = false := by
      cases h : delays g lag L with
      | nil => rw [h] at hq; cases hq
      | cons _ _ => rfl
    rw [he] at e2
    have e3 := last_ix _ hq
    simp [F_most_delay, fnSem, g_most_delay, mergeB, e_check_whole a.n1 a.n2 a.ok, e_check_gap a.g1 a.g2, e_check_lag h1 h2, -r_ixL, k1, e2, e3, lastD, hq]
end My
namespace My
open PySem PySem.Spec PyProof.Rows L2 RT
variable {n d g : Int} {L : List Ln}
def onsOf (d g : Int) (L : List Ln) : List Int := (live d g 0 0 L).map (·.1)
def wts (d g : Int) (L : List Ln) : List (Int × Int) := (kn d 0 L).zip (onsOf d g L)
theorem wts_len (d g : Int) (L : List Ln) : (wts d g L).length = L.length := by simp [wts, onsOf, kn_length, live_length]
theorem e_waits (hl : L.length ≤ 1000) (h : ∀ l ∈ L, 0 ≤ l.2.1 + d) : F_waits_of [.va (dL L), .va (.int d), .va (.int g)] = .ok (.lst ((wts d g L).map dSh), [.va (dL L), .va (.int d), .va (.int g)]) := by
  have h1 := oLc_map (vs := [4]) (it := (iSeq (eCall F_shows_by (aCons (eSlot 0) (aCons (eSlot 1) (aCons (eSlot 2) aNil)))))) (tg := (gN 4)) (te := (eOp dIx (eSlot 4) (eC (.int 0))))
    (ρ := [.va (dL L), .va (.int d), .va (.int g), .un, .un]) (ρ1 := [.va (dL L), .va (.int d), .va (.int g), .un, .un]) (live d g 0 0 L) dSh (fun p => .int p.1)
    (by simp [e_shows_by hl h]) (by rfl) (by
      rintro p _
      exact ⟨[(4, dSh p)], rfl, by simp, by simp [dSh, L2.ixN]⟩) (by simp [live_length]; exact szL hl)
  have e : ((live d g 0 0 L).map fun p => D.int p.1) = (onsOf d g L).map D.int := by simp [onsOf]
  rw [e] at h1
  have hz : min (kn d 0 L).length (onsOf d g L).length ≤ sizeLine := by simp [kn_length, onsOf, live_length]; exact szL hl
  have e2 : (fun p : Int × Int => D.tup [D.int p.1, D.int p.2]) = dSh := rfl
  simp [F_waits_of, fnSem, g_waits_of, mergeB, h1, e_known_at hl h, zipD_map, hz, wts, e2]
def wb (W : List (Int × Int)) (t : Int) : Int := ((W.filter fun p => decide (p.1 ≤ t) && decide (t < p.2)).length : Nat)
theorem e_waiting_by {W : List (Int × Int)} (hl : W.length ≤ 1000) (t : Int) : F_waiting_by [.va (.lst (W.map dSh)), .va (.int t)] = .ok (.int (wb W t), [.va (.lst (W.map dSh)), .va (.int t)]) := by
  have h1 := oLc_pure (vs := [2, 3]) (it := (iSeq (eSlot 0))) (tg := (gT (gsCons (gN 2) (gsCons (gN 3) gsNil)))) (tt := (bV (eChain dLe dLt (eSlot 2) (eSlot 1) (eSlot 3)))) (te := (eSlot 2))
    (ρ := [.va (.lst (W.map dSh)), .va (.int t), .un, .un]) (ρ1 := [.va (.lst (W.map dSh)), .va (.int t), .un, .un]) W dSh (fun p => decide (p.1 ≤ t) && decide (t < p.2)) (fun p => .int p.1)
    (by simp) (by rfl) (by
      rintro ⟨a, b⟩ _
      refine ⟨[(2, .int a), (3, .int b)], rfl, by simp, ?_, by simp⟩
      by_cases h : a ≤ t <;> simp [h]) (by rw [sizeLine_eq]; omega)
  simp [F_waiting_by, fnSem, g_waiting_by, mergeB, h1, wb]
theorem wl (a : OkA n d g L) : (wts d g L).length ≤ 1000 := by rw [wts_len]; exact a.ok.l1000
theorem e_waiting_at {t : Int} (a : OkA n d g L) (h1 : 0 ≤ t) (h2 : t ≤ 20000) : F_waiting_at [.va (film n), .va (dL L), .va (.int d), .va (.int g), .va (.int t)] = .ok (.int (wb (wts d g L) t), [.va (film n), .va (dL L), .va (.int d), .va (.int g), .va (.int t)]) := by
  simp [F_waiting_at, fnSem, g_waiting_at, mergeB, e_check_live a, e_is_between, h1, h2, e_waits a.ok.l1000 (a.ok.pos a.d1), e_waiting_by (wl a)]
def foundOf (W : List (Int × Int)) : List (Int × Int) := (0, 0) :: W.map fun p => (wb W p.1, p.1)
theorem e_most_waiting (a : OkA n d g L) {m t : Int} (hm : maxL ((foundOf (wts d g L)).map (·.1)) = some m) (ht : minL (((foundOf (wts d g L)).filter (fun p => p.1 == m)).map (·.2)) = some t) :
    F_most_waiting [.va (film n), .va (dL L), .va (.int d), .va (.int g)] = .ok (dSh (m, t), [.va (film n), .va (dL L), .va (.int d), .va (.int g)]) := by
  have hl := wl a
  generalize hW : wts d g L = W at *
  have k1 := oLc_map (vs := [7, 8]) (it := (iSeq (eSlot 4))) (tg := (gT (gsCons (gN 7) (gsCons (gN 8) gsNil)))) (te := (eTup (aCons (eCall F_waiting_by (aCons (eSlot 4) (aCons (eSlot 7) aNil))) (aCons (eSlot 7) aNil))))
    (ρ := [.va (film n), .va (dL L), .va (.int d), .va (.int g), .va (.lst (W.map dSh)), .un, .un, .un, .un, .un, .un]) (ρ1 := [.va (film n), .va (dL L), .va (.int d), .va (.int g), .va (.lst (W.map dSh)), .un, .un, .un, .un, .un, .un]) W dSh (fun p => dSh (wb W p.1, p.1))
    (by simp) (by rfl) (by
      rintro ⟨x, y⟩ _
      exact ⟨[(7, .int x), (8, .int y)], rfl, by simp, by simp [e_waiting_by hl]; rfl⟩) (by rw [sizeLine_eq]; omega)
  have ef : dSh (0, 0) :: W.map (fun p => dSh (wb W p.1, p.1)) = (foundOf W).map dSh := by simp [foundOf]
  have ef : D.tup [D.int 0, D.int 0] :: W.map (fun p => dSh (wb W p.1, p.1)) = (foundOf W).map dSh := ef
  have hfl : (foundOf W).length ≤ sizeLine := by rw [sizeLine_eq]; simp [foundOf]; omega
  have k2 := oLc_map (vs := [9, 10]) (it := (iSeq (eSlot 5))) (tg := (gT (gsCons (gN 9) (gsCons (gN 10) gsNil)))) (te := (eSlot 9))
    (ρ := [.va (film n), .va (dL L), .va (.int d), .va (.int g), .va (.lst (W.map dSh)), .va (.lst ((foundOf W).map dSh)), .un, .un, .un, .un, .un]) (ρ1 := [.va (film n), .va (dL L), .va (.int d), .va (.int g), .va (.lst (W.map dSh)), .va (.lst ((foundOf W).map dSh)), .un, .un, .un, .un, .un]) (foundOf W) dSh (fun p => .int p.1)
    (by simp) (by rfl) (by
      rintro ⟨x, y⟩ _
      exact ⟨[(9, .int x), (10, .int y)], rfl, by simp, by simp⟩) hfl
  have k3 := oLc_pure (vs := [9, 10]) (it := (iSeq (eSlot 5))) (tg := (gT (gsCons (gN 9) (gsCons (gN 10) gsNil)))) (tt := (bV (eOp dEq (eSlot 9) (eSlot 6)))) (te := (eSlot 10))
    (ρ := [.va (film n), .va (dL L), .va (.int d), .va (.int g), .va (.lst (W.map dSh)), .va (.lst ((foundOf W).map dSh)), .va (.int m), .un, .un, .un, .un]) (ρ1 := [.va (film n), .va (dL L), .va (.int d), .va (.int g), .va (.lst (W.map dSh)), .va (.lst ((foundOf W).map dSh)), .va (.int m), .un, .un, .un, .un]) (foundOf W) dSh (fun p => p.1 == m) (fun p => .int p.2)
    (by simp) (by rfl) (by
      rintro ⟨x, y⟩ _
      exact ⟨[(9, .int x), (10, .int y)], rfl, by simp, by simp, by simp⟩) hfl
  have c2 : ((foundOf W).map fun p => D.int p.1) = ((foundOf W).map (·.1)).map D.int := by simp
  have c3 : (((foundOf W).filter (fun p => p.1 == m)).map fun p => D.int p.2) = (((foundOf W).filter (fun p => p.1 == m)).map (·.2)).map D.int := by simp
  rw [c2] at k2
  rw [c3] at k3
  have r2 := r_maxL ((foundOf W).map (·.1))
  have r3 := r_minL (((foundOf W).filter (fun p => p.1 == m)).map (·.2))
  rw [hm] at r2
  rw [ht] at r3
  have hfl2 : (D.tup [D.int 0, D.int 0] :: W.map (fun p => dSh (wb W p.1, p.1))).length ≤ sizeLine := by rw [ef, List.length_map]; exact hfl
  have s1 : F_waits_of [.va (dL L), .va (.int d), .va (.int g)] = .ok (.lst (W.map dSh), [.va (dL L), .va (.int d), .va (.int g)]) := by rw [← hW]; exact e_waits a.ok.l1000 (a.ok.pos a.d1)
  simp only [List.length_cons, List.length_map] at hfl2
  simp only [F_most_waiting, fnSem, g_most_waiting]
  simp [mergeB, e_check_live a, s1, k1, hfl2, ef]
  simp only [Option.map_some] at r2 r3
  simp only [List.map_map] at k2 k3 r2 r3
  simp [hfl, k2, r2, k3, r3, mergeB, dSh]
end My
namespace My
open PySem PySem.Spec PyProof.Rows L2 RT
theorem wb_eq {W : List (Int × Int)} (t : Int) : wb W t = (W.countP fun p => decide (p.1 ≤ t) && decide (t < p.2) : Nat) := by
  unfold wb
  rw [List.countP_eq_length_filter]
theorem wb_step {W : List (Int × Int)} {t : Int} (h : ∀ p ∈ W, p.1 ≠ t) : wb W t ≤ wb W (t - 1) := by
  rw [wb_eq, wb_eq]
  have : W.countP (fun p => decide (p.1 ≤ t) && decide (t < p.2)) ≤ W.countP (fun p => decide (p.1 ≤ t - 1) && decide (t - 1 < p.2)) := by
    refine List.countP_mono_left fun p hp q => ?_
    have := h p hp
    simp at q ⊢
    omega
  omega
theorem wb_zero {W : List (Int × Int)} (h : ∀ p ∈ W, 1 ≤ p.1) : wb W 0 = 0 := by
  rw [wb_eq, List.countP_eq_zero.mpr fun p hp => by have := h p hp; simp; omega]
  rfl
theorem wb_nonneg {W : List (Int × Int)} (t : Int) : 0 ≤ wb W t := by unfold wb; omega
theorem wb_back {W : List (Int × Int)} (h : ∀ p ∈ W, 1 ≤ p.1) : ∀ t : Nat, ∃ q ∈ foundOf W, 0 ≤ q.2 ∧ q.2 ≤ (t : Int) ∧ wb W t ≤ q.1 ∧ q.1 = wb W q.2
  | 0 => ⟨(0, 0), by simp [foundOf], by simp, by simp, by simp [wb_zero h], by simp [wb_zero h]⟩
  | t + 1 => by
    by_cases hk : ∃ p ∈ W, p.1 = ((t + 1 : Nat) : Int)
    · obtain ⟨p, hp, e⟩ := hk
      refine ⟨(wb W p.1, p.1), ?_, by simp; omega, by simp [e], by rw [e]; simp, rfl⟩
      unfold foundOf
      exact List.mem_cons_of_mem _ (List.mem_map.mpr ⟨p, hp, rfl⟩)
    · obtain ⟨q, h1, h2, h3, h4, h5⟩ := wb_back h t
      have := wb_step (W := W) (t := ((t + 1 : Nat) : Int)) fun p hp e => hk ⟨p, hp, e⟩
      have e : ((t + 1 : Nat) : Int) - 1 = t := by omega
      rw [e] at this
      exact ⟨q, h1, h2, by omega, by omega, h5⟩
def counts (W : List (Int × Int)) (N : Nat) : List Int := (List.range N).map fun (i : Nat) => wb W (i : Int)
theorem counts_at {W : List (Int × Int)} {N i : Nat} (h : i < N) : (counts W N)[i]? = some (wb W i) := by simp [counts, h]
theorem found_in {W : List (Int × Int)} {N : Nat} (h : ∀ p ∈ W, 1 ≤ p.1) (h2 : ∀ p ∈ W, p.1 < N) (hN : 0 < N) : ∀ q ∈ foundOf W, 0 ≤ q.2 ∧ q.2 < N ∧ q.1 = wb W q.2 := fun q hq => by
  rcases List.mem_cons.mp hq with e | e
  · subst e; exact ⟨by simp, by simp; omega, by simp [wb_zero h]⟩
  · obtain ⟨p, hp, rfl⟩ := List.mem_map.mp e
    have := h p hp
    exact ⟨by simp; omega, h2 p hp, rfl⟩
theorem maxL_of {ls : List Int} {m : Int} (h1 : m ∈ ls) (h2 : ∀ x ∈ ls, x ≤ m) : maxL ls = some m := by
  obtain ⟨k, hk⟩ := maxL_some (ls := ls) (fun e => by rw [e] at h1; cases h1)
  obtain ⟨g1, g2⟩ := maxL_mem hk
  have e : k = m := by
    have := h2 k g1
    have := g2 m h1
    omega
  rw [hk, e]
theorem minL_of {ls : List Int} {m : Int} (h1 : m ∈ ls) (h2 : ∀ x ∈ ls, m ≤ x) : minL ls = some m := by
  cases ls with
  | nil => cases h1
  | cons a l =>
    have := mingo l a m (fun y hy => h2 y (List.mem_cons_of_mem _ hy)) (h2 a List.mem_cons_self) (List.mem_cons.mp h1)
    show some _ = _
    rw [this]
theorem most_two {W : List (Int × Int)} {N : Nat} {M : Int} {i0 : Nat} (h : ∀ p ∈ W, 1 ≤ p.1) (h2 : ∀ p ∈ W, p.1 < N) (hN : 0 < N) (hM : maxL (counts W N) = some M) (hi : findI M (counts W N) = some i0) :
    maxL ((foundOf W).map (·.1)) = some M ∧ minL (((foundOf W).filter (fun p => p.1 == M)).map (·.2)) = some (i0 : Int) := by
  obtain ⟨m1, m2⟩ := maxL_mem hM
  obtain ⟨f1, f2⟩ := findI_spec hi
  have fin := found_in h h2 hN
  have hi0 : i0 < N := by
    have := (List.getElem?_eq_some_iff.mp f1).1
    simpa [counts] using this
  have le : ∀ q ∈ foundOf W, q.1 ≤ M := fun q hq => by
    obtain ⟨a, b, c⟩ := fin q hq
    rw [c]
    refine m2 _ ?_
    have e : q.2 = (q.2.toNat : Int) := by omega
    have : (counts W N)[q.2.toNat]? = some (wb W q.2) := by rw [counts_at (by omega)]; congr 1; rw [← e]
    exact List.mem_of_getElem? this
  rw [counts_at hi0] at f1
  have f1 : wb W i0 = M := Option.some.inj f1
  obtain ⟨q, q1, q2, q3, q4, q5⟩ := wb_back h i0
  have qM : q.1 = M := by
    have := le q q1
    omega
  have low : ∀ q ∈ foundOf W, q.1 = M → (i0 : Int) ≤ q.2 := fun q hq e => by
    obtain ⟨a, b, c⟩ := fin q hq
    rcases Int.lt_or_le q.2 (i0 : Int) with hlt | hle
    · have := f2 q.2.toNat (wb W q.2) (by omega) (by rw [counts_at (by omega)]; congr 2; omega)
      rw [← c, e] at this
      simp at this
    · exact hle
  have qi : q.2 = i0 := by
    have := low q q1 qM
    omega
  refine ⟨maxL_of (List.mem_map.mpr ⟨q, q1, qM⟩) fun x hx => ?_, minL_of (List.mem_map.mpr ⟨q, List.mem_filter.mpr ⟨q1, by simp [qM]⟩, qi⟩) fun x hx => ?_⟩
  · obtain ⟨p, hp, rfl⟩ := List.mem_map.mp hx
    exact le p hp
  · obtain ⟨p, hp, rfl⟩ := List.mem_map.mp hx
    obtain ⟨p1, p2⟩ := List.mem_filter.mp hp
    exact low p p1 (by simpa using p2)
theorem kn_ge (d : Int) : ∀ (L : List Ln) (k : Int), ∀ x ∈ kn d k L, k ≤ x
  | [], _, x, h => by simp [kn] at h
  | l :: L, k, x, h => by
    rcases List.mem_cons.mp (by simpa [kn] using h) with e | e
    · rw [e]; omega
    · have := kn_ge d L _ x e
      omega
theorem kn_ge1 {n d : Int} {L : List Ln} (ok : OkL n L) (hd : 0 ≤ d) : ∀ x ∈ kn d 0 L, 1 ≤ x := fun x hx => by
  cases L with
  | nil => simp [kn] at hx
  | cons l L =>
    have := ok.each l List.mem_cons_self
    have e : 1 ≤ max 0 (l.2.1 + d) := by omega
    rcases List.mem_cons.mp (by simpa [kn] using hx) with h | h
    · rw [h]; omega
    · have := kn_ge d L _ x h
      omega
theorem wts_le (d g : Int) : ∀ (L : List Ln) (k t : Int), ∀ p ∈ (kn d k L).zip ((live d g k t L).map (·.1)), p.1 ≤ p.2
  | [], _, _, p, h => by simp [kn] at h
  | l :: L, k, t, p, h => by
    simp only [kn, live, List.map_cons, List.zip_cons_cons] at h
    rcases List.mem_cons.mp h with e | e
    · rw [e]; simp only; omega
    · exact wts_le d g L _ _ p e
theorem live_le {d g B : Int} (hg : 0 ≤ g ∧ g ≤ 100) (hB : 0 ≤ B) : ∀ (L : List Ln) (k t : Int), (∀ l ∈ L, l.2.1 + d ≤ B ∧ 0 ≤ l.2.2 ∧ l.2.2 ≤ 400) → k ≤ B → ∀ p ∈ live d g k t L, p.1 ≤ max B t + 500 * L.length
  | [], _, _, _, _, p, h => by simp [live] at h
  | l :: L, k, t, hl, hk, p, h => by
    obtain ⟨h1, h2, h3⟩ := hl l List.mem_cons_self
    unfold live at h
    rcases List.mem_cons.mp h with e | e
    · rw [e]; simp only [List.length_cons]; omega
    · have := live_le hg hB L (max k (l.2.1 + d)) (max (max k (l.2.1 + d)) t + l.2.2 + g) (fun x hx => hl x (List.mem_cons_of_mem _ hx)) (by omega) p e
      simp only [List.length_cons]
      omega
end My
namespace My
open PySem PySem.Spec PyProof.Rows L2 RT
def c__law_live_lines_2 : AS := (oLc [4] (iRange1 (eCallB 0 F__law_take (aCons (eOp dAdd (eSlot 2) (eC (.int 1))) aNil))) (gN 4) bYes (eCallB 0 F__law_take (aCons (eOp dIx (eSlot 1) (eC (.int 0))) aNil)))
def c__law_live_lines_3 : AS := (oLc [5] (iSeq (eSlot 3)) (gN 5) bYes (eTup (aCons (eSlot 5) (aCons (eOp dAdd (eOp dAdd (eSlot 5) (eC (.int 1))) (eCallB 0 F__law_take (aCons (eBlt dMin (aCons (eC (.int 9)) (aCons (eOp dSub (eOp dIx (eSlot 1) (eC (.int 0))) (eSlot 5)) aNil))) aNil))) (aCons (eOp dAdd (eC (.int 1)) (eCallB 0 F__law_take (aCons (eC (.int 9)) aNil))) aNil)))))
def t__law_live_lines_1 : List B → Fl := (sSet 3 (eO (oBlt dSorted (aCons (eO c__law_live_lines_2) aNil))))
def t__law_live_lines_2 : List B → Fl := (sRet (eBlt dTuple (aCons (eO c__law_live_lines_3) aNil)))
def c__law_known_1 : AS := (oLc [3] (iSeq (eSl (eSlot 0) oNo (oAt (eOp dAdd (eSlot 2) (eC (.int 1)))))) (gN 3) bYes (eOp dIx (eSlot 3) (eC (.int 1))))
def c__law_known_2 : AS := (oLc [2] (iRange1 (eBlt dLen (aCons (eSlot 0) aNil))) (gN 2) bYes (eOp dAdd (eBlt dMax (aCons (eO c__law_known_1) aNil)) (eSlot 1)))
def c__law_right_1 : AS := (oLc [15] (iSeq (eCall F__law_lags (aCons (eSlot 2) (aCons (eSlot 14) (aCons (eSlot 4) aNil))))) (gN 15) bYes (eOp dLe (eSlot 15) (eSlot 7)))
def c__law_right_2 : AS := (oLc [14] (iRange1 (eC (.int 101))) (gN 14) (bV (eBlt dAll (aCons (eO c__law_right_1) aNil))) (eSlot 14))
def c__law_right_3 : AS := (oLc [16] (iSeq (eCall F__law_live (aCons (eSlot 2) (aCons (eSlot 3) (aCons (eSlot 4) aNil))))) (gN 16) bYes (eOp dIx (eSlot 16) (eC (.int 0))))
def c__law_right_4 : AS := (oLc [17] (iRange1 (eBlt dLen (aCons (eSlot 2) aNil))) (gN 17) (bAnd (bV (eOp dLe (eOp dIx (eSlot 9) (eSlot 17)) (eSlot 13))) (bV (eOp dLt (eSlot 13) (eOp dIx (eSlot 10) (eSlot 17))))) (eSlot 17))
def c__law_right_5 : AS := (oLc [13] (iRange1 (eOp dAdd (eSlot 11) (eC (.int 1)))) (gN 13) bYes (eBlt dLen (aCons (eO c__law_right_4) aNil)))
def t__law_right_1 : List B → Fl := (sSet 1 (eTup (aCons (eOp dAdd (eC (.int 4)) (eCallB 0 F__law_take (aCons (eC (.int 37)) aNil))) (aCons (eTup aNil) aNil))))
def t__law_right_2 : List B → Fl := (sUnp (eTup (aCons (eCallB 0 F__law_live_lines (aCons (eSlot 1) (aCons (eC (.int 7)) aNil))) (aCons (eCallB 0 F__law_take (aCons (eC (.int 9)) aNil)) (aCons (eCallB 0 F__law_take (aCons (eC (.int 5)) aNil)) aNil)))) (gT (gsCons (gN 2) (gsCons (gN 3) (gsCons (gN 4) gsNil)))))
def t__law_right_3 : List B → Fl := (sSet 5 (eCall F__law_lags (aCons (eSlot 2) (aCons (eSlot 3) (aCons (eSlot 4) aNil)))))
def t__law_right_4 : List B → Fl := (sSet 6 (eIf (bV (eOp dNe (eSlot 5) (eO (oLst aNil)))) (eTup (aCons (eBlt dMax (aCons (eSlot 5) aNil)) (aCons (eIndex (eSlot 5) (eBlt dMax (aCons (eSlot 5) aNil))) aNil))) (eTup (aCons (eC (.int 0)) (aCons (eC .non) aNil)))))
def t__law_right_5 : List B → Fl := (sIf (bV (eOp dNe (eBlt dRepr (aCons (eCall F_worst_lag (aCons (eSlot 1) (aCons (eSlot 2) (aCons (eSlot 3) (aCons (eSlot 4) aNil))))) aNil)) (eBlt dRepr (aCons (eSlot 6) aNil)))) (sRet (eC (.bl false))) sNx)
def t__law_right_6 : List B → Fl := (sSet 7 (eCallB 0 F__law_take (aCons (eCallB 0 F__law_of (aCons (eO (oLst (aCons (eC (.int 20)) (aCons (eC (.int 150)) aNil)))) aNil)) aNil)))
def t__law_right_7 : List B → Fl := (sSet 8 (eO c__law_right_2))
def t__law_right_8 : List B → Fl := (sIf (bV (eOp dNe (eBlt dRepr (aCons (eCall F_most_delay (aCons (eSlot 1) (aCons (eSlot 2) (aCons (eSlot 4) (aCons (eSlot 7) aNil))))) aNil)) (eBlt dRepr (aCons (eIf (bV (eOp dNe (eSlot 8) (eO (oLst aNil)))) (eOp dIx (eSlot 8) (eUn dNeg (eC (.int 1)))) (eC .non)) aNil)))) (sRet (eC (.bl false))) sNx)
def t__law_right_9 : List B → Fl := (sUnp (eTup (aCons (eCall F__law_known (aCons (eSlot 2) (aCons (eSlot 3) aNil))) (aCons (eO c__law_right_3) aNil))) (gT (gsCons (gN 9) (gsCons (gN 10) gsNil))))
def t__law_right_10 : List B → Fl := (sSet 11 (eOp dAdd (eBlt dMax (aCons (eOp dAdd (eO (oLst (aCons (eC (.int 0)) aNil))) (eSlot 10)) aNil)) (eC (.int 3))))
def t__law_right_11 : List B → Fl := (sSet 12 (eO c__law_right_5))
def t__law_right_12 : List B → Fl := (sSet 13 (eCallB 0 F__law_take (aCons (eOp dAdd (eSlot 11) (eC (.int 1))) aNil)))
def t__law_right_13 : List B → Fl := (sIf (bOr (bV (eOp dNe (eBlt dRepr (aCons (eCall F_waiting_at (aCons (eSlot 1) (aCons (eSlot 2) (aCons (eSlot 3) (aCons (eSlot 4) (aCons (eSlot 13) aNil)))))) aNil)) (eBlt dRepr (aCons (eOp dIx (eSlot 12) (eSlot 13)) aNil)))) (bV (eOp dNe (eCall F_waiting_at (aCons (eSlot 1) (aCons (eSlot 2) (aCons (eSlot 3) (aCons (eSlot 4) (aCons (eOp dAdd (eSlot 11) (eC (.int 5000))) aNil)))))) (eC (.int 0))))) (sRet (eC (.bl false))) sNx)
def t__law_right_14 : List B → Fl := (sRet (eOp dEq (eBlt dRepr (aCons (eCall F_most_waiting (aCons (eSlot 1) (aCons (eSlot 2) (aCons (eSlot 3) (aCons (eSlot 4) aNil))))) aNil)) (eBlt dRepr (aCons (eTup (aCons (eBlt dMax (aCons (eSlot 12) aNil)) (aCons (eIndex (eSlot 12) (eBlt dMax (aCons (eSlot 12) aNil))) aNil))) aNil))))
def c_law_1 : AS := (oLc [3] (iRange1 (eC (.int 6))) (gN 3) bYes (eCallB 2 F__law_right aNil))
def b_law_1 : List B → Fl := (sSeq (sSetO 2 (oCall F__law_pot (aCons (eSlot 0) (aCons (eSlot 1) aNil)))) (sIf (bNot (bV (eBlt dAll (aCons (eO c_law_1) aNil)))) (sRet (eC (.bl false))) sNx))
def t_law_1 : List B → Fl := (sFor (iSeq (eCall F__law_cells (aCons (eSlot 0) (aCons (eC (.int 3)) aNil)))) (gN 1) b_law_1)
def t_law_2 : List B → Fl := (sRet (eC (.bl true)))
theorem g_right_eq : g__law_right = (sSeq t__law_right_1 (sSeq t__law_right_2 (sSeq t__law_right_3 (sSeq t__law_right_4 (sSeq t__law_right_5 (sSeq t__law_right_6 (sSeq t__law_right_7 (sSeq t__law_right_8 (sSeq t__law_right_9 (sSeq t__law_right_10 (sSeq t__law_right_11 (sSeq t__law_right_12 (sSeq t__law_right_13 t__law_right_14))))))))))))) := rfl
theorem g_lines_eq : g__law_live_lines = sSeq t__law_live_lines_1 t__law_live_lines_2 := rfl
theorem g_known_eq : g__law_known = sRet (eO c__law_known_2) := rfl
theorem g_law_eq : g_law = sSeq t_law_1 t_law_2 := rfl
variable {n d g : Int} {L : List Ln}
theorem kn_get (d : Int) : ∀ (L : List Ln) (k : Int) (i : Nat), i < L.length → (kn d k L)[i]? = some ((L.take (i + 1)).foldl (fun a l => max a (l.2.1 + d)) k)
  | [], _, i, h => by simp at h
  | l :: L, k, 0, _ => by simp [kn]
  | l :: L, k, i + 1, h => by
    have := kn_get d L (max k (l.2.1 + d)) i (by simpa using h)
    simpa [kn] using this
theorem fold_shift (d : Int) : ∀ (M : List Ln) (x : Int), M.foldl (fun a l => max a (l.2.1 + d)) (x + d) = (M.map (·.2.1)).foldl (fun a b => if b > a then b else a) x + d
  | [], x => rfl
  | l :: M, x => by
    rw [List.foldl_cons, List.map_cons, List.foldl_cons, ← fold_shift d M]
    congr 1
    split <;> omega
theorem kmx (hd : 0 ≤ d) (h : ∀ l ∈ L, 0 ≤ l.2.1) {i : Nat} (hi : i < L.length) : ∃ m, maxL ((L.take (i + 1)).map (·.2.1)) = some m ∧ (kn d 0 L)[i]? = some (m + d) := by
  cases L with
  | nil => simp at hi
  | cons l M =>
    rw [kn_get d _ 0 i hi]
    have h0 := h l List.mem_cons_self
    refine ⟨_, by rw [List.take_succ_cons, List.map_cons]; rfl, ?_⟩
    rw [List.take_succ_cons, List.foldl_cons, ← fold_shift]
    congr 2
    omega
theorem rgL (k : Nat) (hk : k ≤ 100000) : rangeD 0 (k : Int) = some (((List.range k).map fun (i : Nat) => (i : Int)).map D.int) := by
  unfold rangeD
  rw [if_pos (by omega)]
  simp
theorem it_go {f : ES} {ρ ρ1 : List B} {k : Nat} (hk : k ≤ 100000) (h : f ρ = .ok (.int (k : Int), ρ1)) : iRange1 f ρ = .ok (((List.range k).map fun (i : Nat) => (i : Int)).map D.int, ρ1) := by
  have e := rgL k hk
  unfold iRange1
  rw [h, Rs.ok_bind]
  simp only [e, ofO_some, Rs.ok_bind]
theorem rfl_len : dLen [dL L] = some (.int L.length) := by simp [dL]
theorem it_len : eBlt dLen (aCons (eSlot 0) aNil) [.va (dL L), .va (.int d), .un, .un] = .ok (.int L.length, [.va (dL L), .va (.int d), .un, .un]) := by
  have e : dLen [dL L] = some (.int L.length) := rfl_len
  simp [e]
theorem e_law_known (hl : L.length ≤ 1000) (hd : 0 ≤ d) (h : ∀ l ∈ L, 0 ≤ l.2.1) : F__law_known [.va (dL L), .va (.int d)] = .ok (.lst ((kn d 0 L).map D.int), [.va (dL L), .va (.int d)]) := by
  have k1 : c__law_known_2 [.va (dL L), .va (.int d), .un, .un] = .ok (((List.range L.length).map fun (i : Nat) => (i : Int)).map (fun i => D.int ((kn d 0 L).getD i.toNat 0)), [.va (dL L), .va (.int d), .un, .un]) := by
    unfold c__law_known_2
    refine oLc_map ((List.range L.length).map fun (i : Nat) => (i : Int)) D.int _ ?_ (by rfl) ?_ (by simp; exact szL hl)
    · exact it_go (by omega) it_len
    · intro x hx
      simp at hx
      obtain ⟨i, hi, rfl⟩ := hx
      obtain ⟨m, h1, h2⟩ := kmx (d := d) hd h hi
      have q : c__law_known_1 [.va (dL L), .va (.int d), .va (.int i), .un] = .ok (((L.take (i + 1)).map (·.2.1)).map D.int, [.va (dL L), .va (.int d), .va (.int i), .un]) := by
        unfold c__law_known_1
        have := oLc_map (vs := [3]) (it := (iSeq (eSl (eSlot 0) oNo (oAt (eOp dAdd (eSlot 2) (eC (.int 1))))))) (tg := (gN 3)) (te := (eOp dIx (eSlot 3) (eC (.int 1)))) (ρ := [.va (dL L), .va (.int d), .va (.int i), .un]) (ρ1 := [.va (dL L), .va (.int d), .va (.int i), .un]) (L.take (i + 1)) dLn (fun l => .int l.2.1) (by
            have e : RT.cutD (L.map dLn) none (some ((i : Int) + 1)) = (L.take (i + 1)).map dLn := by
              rw [cut_take _ (by omega), show ((i : Int) + 1).toNat = i + 1 by omega, List.map_take]
            simp [dL, e]) (by rfl) (by
              intro l _
              exact ⟨[(3, dLn l)], rfl, by simp, by simp [dLn, L2.ixN]⟩) (by simp; rw [sizeLine_eq]; omega)
        rw [this]
        simp [Function.comp_def]
      refine ⟨[(2, .int i)], rfl, by simp, ?_⟩
      have r := r_maxL ((L.take (i + 1)).map (·.2.1))
      rw [h1] at r
      simp only [Option.map_some] at r
      generalize ((L.take (i + 1)).map (·.2.1)).map D.int = z at q r
      simp [q, r, h2]
  have e : ((List.range L.length).map fun (i : Nat) => (i : Int)).map (fun i => D.int ((kn d 0 L).getD i.toNat 0)) = (kn d 0 L).map D.int := by
    refine List.ext_getElem? fun i => ?_
    by_cases hi : i < L.length
    · have : i < (kn d 0 L).length := by rw [kn_length]; exact hi
      simp [hi, this]
    · rw [List.getElem?_eq_none (by simp; omega), List.getElem?_eq_none (by simp [kn_length]; omega)]
  rw [e] at k1
  refine call_of (ρ' := [.va (dL L), .va (.int d), .un, .un]) rfl ?_ rfl
  show sRet (eO c__law_known_2) [.va (dL L), .va (.int d), .un, .un] = _
  rw [r_sRet, r_eO, k1]
  rfl
end My
namespace My
open PySem PySem.Spec PyProof.Rows L2 RT
variable {n d g : Int} {L : List Ln}
theorem PotOk.mono {m m' : Nat} {ds : List D} (h : PotOk m ds) (k : m ≤ m') : PotOk m' ds := by
  obtain ⟨o, s, c, e, h1, h2, h3⟩ := h
  exact ⟨o, s, c, e, h1, by omega, h3⟩
theorem zip_tail : ∀ {l : List Int}, l.Pairwise (· ≤ ·) → ∀ (i : Nat) (a b : Int), l[i]? = some a → l[i + 1]? = some b → a ≤ b
  | [], _, i, a, b, h, _ => by simp at h
  | x :: l, hp, 0, a, b, h1, h2 => by
    obtain ⟨p1, p2⟩ := List.pairwise_cons.mp hp
    simp at h1 h2
    subst h1
    exact p1 b (List.mem_of_getElem? h2)
  | x :: l, hp, i + 1, a, b, h1, h2 => zip_tail (List.pairwise_cons.mp hp).2 i a b (by simpa using h1) (by simpa using h2)
theorem e_lines {m : Nat} {ds : List D} (hp : PotOk m ds) (hm : m + 100 < 2 ^ 40) (h1 : 1 ≤ n) (h2 : n ≤ 400) : ∃ (L : List Ln) (ds' : List D), OkL n L ∧ L.length ≤ 7 ∧ (∀ l ∈ L, l.2.2 ≤ 9) ∧ PotOk (m + 22) ds' ∧
    F__law_live_lines [.ow true ds, .va (film n), .va (.int 7)] = .ok (dL L, [.ow true ds', .va (film n), .va (.int 7)]) := by
  obtain ⟨v, ds1, v1, v2, p1, f1⟩ := e_take (u := 8) hp (by omega) (by decide) (by decide)
  obtain ⟨k, rfl⟩ : ∃ k : Nat, v = k := ⟨v.toNat, by omega⟩
  obtain ⟨bs, ds2, q1, q2, q3, q4⟩ := oLc_st (it := (iRange1 (eCallB 0 F__law_take (aCons (eOp dAdd (eSlot 2) (eC (.int 1))) aNil)))) (tg := gN 4) (te := (eCallB 0 F__law_take (aCons (eOp dIx (eSlot 1) (eC (.int 0))) aNil))) (vs := [4])
    (ρ := [.ow true ds, .va (film n), .va (.int 7), .un, .un, .un]) (ρ1 := [.ow true ds1, .va (film n), .va (.int 7), .un, .un, .un])
    (fun j s => PotOk (m + 1 + j) s) (fun s => [.ow true s, .va (film n), .va (.int 7), .un, .un, .un]) D.int D.int (fun a b => 0 ≤ b ∧ b < n) ((List.range k).map fun (i : Nat) => (i : Int)) 0 ds1 (by simpa using p1)
    (it_go (by omega) (by simp [f1])) (by rfl) (by rfl) (by
      intro a _ j s _ hj hI
      simp at hj
      obtain ⟨b, s', b1, b2, p2, f2⟩ := e_take (u := n) hI (by omega) (by omega) (by omega)
      exact ⟨[(4, .int a)], b, s', [.ow true s', .va (film n), .va (.int 7), .un, .va (.int a), .un], rfl, by simp [film0, f2], by simp, by simpa [Nat.add_assoc] using p2, b1, b2⟩) (by simp; rw [sizeLine_eq]; omega)
  have hbl : bs.length = k := by rw [q3]; simp
  have hb : ∀ b ∈ bs, 0 ≤ b ∧ b < n := fun b hb => by
    obtain ⟨i, hi⟩ := List.getElem?_of_mem hb
    have hlt := (List.getElem?_eq_some_iff.mp hi).1
    rw [hbl] at hlt
    exact q4 i i b (by rw [List.getElem?_map, List.getElem?_range hlt]; rfl) hi
  have s1 : t__law_live_lines_1 [.ow true ds, .va (film n), .va (.int 7), .un, .un, .un] = .nx [.ow true ds2, .va (film n), .va (.int 7), .va (.lst ((sortI bs).map D.int)), .un, .un] := by
    have q1 : c__law_live_lines_2 [.ow true ds, .va (film n), .va (.int 7), .un, .un, .un] = .ok (bs.map D.int, [.ow true ds2, .va (film n), .va (.int 7), .un, .un, .un]) := by
      unfold c__law_live_lines_2
      rw [q1]
      simp
    simp [t__law_live_lines_1, q1, r_sortedL]
  have hs : ∀ b ∈ sortI bs, 0 ≤ b ∧ b < n := fun b h => hb b ((sortI_perm bs).mem_iff.mp h)
  have hsl : (sortI bs).length = k := by rw [(sortI_perm bs).length_eq, hbl]
  obtain ⟨ls, ds3, r1, r2, r3, r4⟩ := oLc_st (it := (iSeq (eSlot 3))) (tg := gN 5) (te := (eTup (aCons (eSlot 5) (aCons (eOp dAdd (eOp dAdd (eSlot 5) (eC (.int 1))) (eCallB 0 F__law_take (aCons (eBlt dMin (aCons (eC (.int 9)) (aCons (eOp dSub (eOp dIx (eSlot 1) (eC (.int 0))) (eSlot 5)) aNil))) aNil))) (aCons (eOp dAdd (eC (.int 1)) (eCallB 0 F__law_take (aCons (eC (.int 9)) aNil))) aNil))))) (vs := [5])
    (ρ := [.ow true ds2, .va (film n), .va (.int 7), .va (.lst ((sortI bs).map D.int)), .un, .un]) (ρ1 := [.ow true ds2, .va (film n), .va (.int 7), .va (.lst ((sortI bs).map D.int)), .un, .un])
    (fun j s => PotOk (m + 8 + 2 * j) s) (fun s => [.ow true s, .va (film n), .va (.int 7), .va (.lst ((sortI bs).map D.int)), .un, .un]) D.int dLn (fun a (b : Ln) => b.1 = a ∧ a < b.2.1 ∧ b.2.1 ≤ n ∧ 1 ≤ b.2.2 ∧ b.2.2 ≤ 9) (sortI bs) 0 ds2 (by
      refine PotOk.mono q2 ?_
      simp
      omega)
    (by simp) (by rfl) (by rfl) (by
      intro a ha j s _ hj hI
      obtain ⟨a1, a2⟩ := hs a ha
      rw [hsl] at hj
      have hu : 0 < (if n - a < 9 then n - a else 9) := by split <;> omega
      have hu2 : (if n - a < 9 then n - a else 9) ≤ n - a := by split <;> omega
      have hu3 : (if n - a < 9 then n - a else 9) < 2 ^ 60 := by split <;> omega
      obtain ⟨b, s', b1, b2, p2, f2⟩ := e_take hI (by omega) hu hu3
      obtain ⟨c, s'', c1, c2, p3, f3⟩ := e_take (u := 9) p2 (by omega) (by decide) (by decide)
      refine ⟨[(5, .int a)], (a, a + 1 + b, 1 + c), s'', [.ow true s'', .va (film n), .va (.int 7), .va (.lst ((sortI bs).map D.int)), .un, .va (.int a)], rfl, ?_, by simp, PotOk.mono p3 (by omega), rfl, by simp only; omega, by simp only; omega, by simp only; omega, by simp only; omega⟩
      simp [film0, f2, f3, dLn]) (by rw [hsl, sizeLine_eq]; omega)
  have hl : ls.length = k := by rw [r3, hsl]
  have each : ∀ l ∈ ls, 0 ≤ l.1 ∧ l.1 < l.2.1 ∧ l.2.1 ≤ n ∧ 1 ≤ l.2.2 ∧ l.2.2 ≤ 9 := fun l hm => by
    obtain ⟨i, hi⟩ := List.getElem?_of_mem hm
    have hlt := (List.getElem?_eq_some_iff.mp hi).1
    have hlt2 : i < (sortI bs).length := by omega
    obtain ⟨e, x1, x2, x3, x4⟩ := r4 i _ l (List.getElem?_eq_getElem hlt2) hi
    have := (hs _ (List.getElem_mem hlt2)).1
    exact ⟨by omega, by omega, x2, x3, x4⟩
  refine ⟨ls, ds3, ⟨by omega, fun l hm => by obtain ⟨y1, y2, y3, y4, y5⟩ := each l hm; exact ⟨y1, y2, y3, by omega, by omega⟩, fun p hp => ?_⟩, by omega, fun l hm => (each l hm).2.2.2.2, PotOk.mono r2 (by rw [hsl]; omega), ?_⟩
  · obtain ⟨i, hi⟩ := List.getElem?_of_mem hp
    rw [List.getElem?_zip_eq_some] at hi
    obtain ⟨i1, i2⟩ := hi
    rw [List.getElem?_tail] at i2
    have l1 := (List.getElem?_eq_some_iff.mp i1).1
    have l2 := (List.getElem?_eq_some_iff.mp i2).1
    have g1 : i < (sortI bs).length := by omega
    have g2 : i + 1 < (sortI bs).length := by omega
    have e1 := (r4 i _ _ (List.getElem?_eq_getElem g1) i1).1
    have e2 := (r4 (i + 1) _ _ (List.getElem?_eq_getElem g2) i2).1
    rw [e1, e2]
    exact zip_tail (sortI_sorted bs) i _ _ (List.getElem?_eq_getElem g1) (List.getElem?_eq_getElem g2)
  · have r1 : c__law_live_lines_3 [.ow true ds2, .va (film n), .va (.int 7), .va (.lst ((sortI bs).map D.int)), .un, .un] = .ok (ls.map dLn, [.ow true ds3, .va (film n), .va (.int 7), .va (.lst ((sortI bs).map D.int)), .un, .un]) := by
      unfold c__law_live_lines_3
      rw [r1]
      simp
    refine call_of (ρ' := [.ow true ds3, .va (film n), .va (.int 7), .va (.lst ((sortI bs).map D.int)), .un, .un]) rfl ?_ rfl
    show sSeq t__law_live_lines_1 t__law_live_lines_2 [.ow true ds, .va (film n), .va (.int 7), .un, .un, .un] = _
    rw [seq_nx s1]
    simp [t__law_live_lines_2, r1, dL]
end My
namespace My
open PySem PySem.Spec PyProof.Rows L2 RT
variable {n d g lag tick : Int} {L : List Ln} {ds : List D} {N : Nat}
theorem live_ge (d g : Int) : ∀ (L : List Ln) (k t : Int), ∀ p ∈ live d g k t L, k ≤ p.1
  | [], _, _, p, h => by simp [live] at h
  | l :: L, k, t, p, h => by
    unfold live at h
    rcases List.mem_cons.mp h with e | e
    · rw [e]; simp only; omega
    · have := live_ge d g L _ _ p e
      omega
theorem live_bd (a : OkA n d g L) (hn : n ≤ 40) (hl : L.length ≤ 7) : ∀ p ∈ live d g 0 0 L, 0 ≤ p.1 ∧ p.1 ≤ 4000 := fun p hp => by
  have h1 := live_ge d g L 0 0 p hp
  have h2 := live_le (B := 200) ⟨a.g1, a.g2⟩ (by decide) L 0 0 (fun l hl => by
    obtain ⟨x1, x2, x3, x4, x5⟩ := a.ok.each l hl
    have := a.d2
    exact ⟨by omega, by omega, x5⟩) (by decide) p hp
  exact ⟨h1, by omega⟩
theorem ons_bd (a : OkA n d g L) (hn : n ≤ 40) (hl : L.length ≤ 7) : ∀ x ∈ onsOf d g L, 0 ≤ x ∧ x ≤ 4000 := fun x hx => by
  obtain ⟨p, hp, rfl⟩ := List.mem_map.mp hx
  exact live_bd a hn hl p hp
theorem lags_bd (a : OkA n d g L) (hn : n ≤ 40) (hl : L.length ≤ 7) : ∀ x ∈ lagsOf d g L, -400 ≤ x ∧ x ≤ 4000 := fun x hx => by
  obtain ⟨p, hp, rfl⟩ := List.mem_map.mp hx
  have h1 := live_bd a hn hl _ (List.of_mem_zip hp).2
  have h2 := a.ok.each _ (List.of_mem_zip hp).1
  have := a.n2
  omega
theorem repr_pair (x y : Int) (h1 : x.natAbs ≤ 999999999999) (h2 : y.natAbs ≤ 999999999999) : ∃ s, reprD (.tup [.int x, .int y]) = some s :=
  ⟨_, repr_small (by simp [smallD, smallDs, h1, h2]) (by simp [nodes, nodesL]) (by simp [dP, dPs, PyData.depth, PyData.depthAll])⟩
theorem repr_none0 : ∃ s, reprD (.tup [.int 0, .non]) = some s :=
  ⟨_, repr_small (by simp [smallD, smallDs]) (by simp [nodes, nodesL]) (by simp [dP, dPs, PyData.depth, PyData.depthAll])⟩
theorem repr_int (x : Int) (h1 : x.natAbs ≤ 999999999999) : ∃ s, reprD (.int x) = some s :=
  ⟨_, repr_small (by simp [smallD, h1]) (by simp [nodes]) (by simp [dP, PyData.depth])⟩
theorem repr_nonD : ∃ s, reprD .non = some s := ⟨_, repr_small rfl (by simp [nodes]) (by simp [dP, PyData.depth])⟩
theorem find_lt {i : Int} {l : List Int} {k : Nat} (h : findI i l = some k) : k < l.length := (List.getElem?_eq_some_iff.mp (findI_spec h).1).1
theorem repr_worst (a : OkA n d g L) (hn : n ≤ 40) (hl : L.length ≤ 7) : ∃ s, reprD (worst (lagsOf d g L)) = some s := by
  by_cases he : lagsOf d g L = []
  · rw [he]; exact repr_none0
  · obtain ⟨m, k, hm, hk, hw⟩ := worst_eq _ he
    rw [hw]
    have h1 := lags_bd a hn hl m (maxL_mem hm).1
    have h2 := find_lt hk
    rw [lags_length] at h2
    exact repr_pair _ _ (by omega) (by omega)
theorem repr_last : ∃ s, reprD (lastD (delays g lag L)) = some s := by
  unfold lastD
  cases h : (delays g lag L).getLast? with
  | none => exact repr_nonD
  | some x =>
    have := List.mem_of_getLast? h
    obtain ⟨m1, _⟩ := List.mem_filter.mp this
    simp at m1
    obtain ⟨k, hk, rfl⟩ := m1
    exact repr_int _ (by omega)
theorem s1 {m : Nat} (hp : PotOk m ds) (hm : m + 100 < 2 ^ 40) : ∃ (n : Int) (ds' : List D), 4 ≤ n ∧ n ≤ 40 ∧ PotOk (m + 1) ds' ∧ t__law_right_1 [.ow true ds, .un, .un, .un, .un, .un, .un, .un, .un, .un, .un, .un, .un, .un, .un, .un, .un, .un] = .nx [.ow true ds', .va (film n), .un, .un, .un, .un, .un, .un, .un, .un, .un, .un, .un, .un, .un, .un, .un, .un] := by
  obtain ⟨v, ds1, v1, v2, p1, f1⟩ := e_take (u := 37) hp (by omega) (by decide) (by decide)
  exact ⟨4 + v, ds1, by omega, by omega, p1, by simp [t__law_right_1, f1, film]⟩
theorem s2 {m : Nat} (hp : PotOk m ds) (hm : m + 100 < 2 ^ 40) (h1 : 4 ≤ n) (h2 : n ≤ 40) : ∃ (L : List Ln) (d g : Int) (ds' : List D), OkA n d g L ∧ L.length ≤ 7 ∧ PotOk (m + 24) ds' ∧ t__law_right_2 [.ow true ds, .va (film n), .un, .un, .un, .un, .un, .un, .un, .un, .un, .un, .un, .un, .un, .un, .un, .un] = .nx [.ow true ds', .va (film n), .va (dL L), .va (.int d), .va (.int g), .un, .un, .un, .un, .un, .un, .un, .un, .un, .un, .un, .un, .un] := by
  obtain ⟨L, ds1, ok, hl, _, p1, f1⟩ := e_lines hp (by omega) (by omega : 1 ≤ n) (by omega)
  obtain ⟨d, ds2, d1, d2, p2, f2⟩ := e_take (u := 9) p1 (by omega) (by decide) (by decide)
  obtain ⟨g, ds3, g1, g2, p3, f3⟩ := e_take (u := 5) p2 (by omega) (by decide) (by decide)
  exact ⟨L, d, g, ds3, ⟨by omega, by omega, d1, by omega, g1, by omega, ok⟩, hl, p3, by simp [t__law_right_2, f1, f2, f3]⟩
theorem s3 (a : OkA n d g L) : t__law_right_3 [.ow true ds, .va (film n), .va (dL L), .va (.int d), .va (.int g), .un, .un, .un, .un, .un, .un, .un, .un, .un, .un, .un, .un, .un] = .nx [.ow true ds, .va (film n), .va (dL L), .va (.int d), .va (.int g), .va (.lst ((lagsOf d g L).map D.int)), .un, .un, .un, .un, .un, .un, .un, .un, .un, .un, .un, .un] := by
  simp [t__law_right_3, e_law_lags a.ok.l1000]
theorem s4 (a : OkA n d g L) : t__law_right_4 [.ow true ds, .va (film n), .va (dL L), .va (.int d), .va (.int g), .va (.lst ((lagsOf d g L).map D.int)), .un, .un, .un, .un, .un, .un, .un, .un, .un, .un, .un, .un] = .nx [.ow true ds, .va (film n), .va (dL L), .va (.int d), .va (.int g), .va (.lst ((lagsOf d g L).map D.int)), .va (worst (lagsOf d g L)), .un, .un, .un, .un, .un, .un, .un, .un, .un, .un, .un] := by
  have e2 := ne_nil (lagsOf d g L)
  by_cases he : lagsOf d g L = []
  · rw [he] at e2 ⊢
    have e2 : dNe (.lst []) (.lst []) = some (.bl false) := e2
    simp [t__law_right_4, e2, worst, maxL]
  · obtain ⟨m, k, hm, hk, hw⟩ := worst_eq _ he
    have e0 : (lagsOf d g L).isEmpty = false := by
      cases h : lagsOf d g L with
      | nil => exact absurd h he
      | cons _ _ => rfl
    rw [e0] at e2
    simp [t__law_right_4, e2, hw, r_maxL, hm, ixI, hk]
theorem s5 (a : OkA n d g L) (hn : n ≤ 40) (hl : L.length ≤ 7) : t__law_right_5 [.ow true ds, .va (film n), .va (dL L), .va (.int d), .va (.int g), .va (.lst ((lagsOf d g L).map D.int)), .va (worst (lagsOf d g L)), .un, .un, .un, .un, .un, .un, .un, .un, .un, .un, .un] = .nx [.ow true ds, .va (film n), .va (dL L), .va (.int d), .va (.int g), .va (.lst ((lagsOf d g L).map D.int)), .va (worst (lagsOf d g L)), .un, .un, .un, .un, .un, .un, .un, .un, .un, .un, .un] := by
  obtain ⟨s, hs⟩ := repr_worst a hn hl
  have h2 := (repr_same hs).1
  simp [t__law_right_5, e_worst_lag a, hs, h2]
theorem s6 {m : Nat} (hp : PotOk m ds) (hm : m + 100 < 2 ^ 40) : ∃ (lag : Int) (ds' : List D), 0 ≤ lag ∧ lag ≤ 2000 ∧ PotOk (m + 2) ds' ∧ t__law_right_6 [.ow true ds, .va (film n), .va (dL L), .va (.int d), .va (.int g), .va (.lst ((lagsOf d g L).map D.int)), .va (worst (lagsOf d g L)), .un, .un, .un, .un, .un, .un, .un, .un, .un, .un, .un] = .nx [.ow true ds', .va (film n), .va (dL L), .va (.int d), .va (.int g), .va (.lst ((lagsOf d g L).map D.int)), .va (worst (lagsOf d g L)), .va (.int lag), .un, .un, .un, .un, .un, .un, .un, .un, .un, .un] := by
  obtain ⟨v, ds1, v1, v2, p1, f1⟩ := e_take (u := 2) hp (by omega) (by decide) (by decide)
  have hv : v = 0 ∨ v = 1 := by omega
  rcases hv with rfl | rfl
  · obtain ⟨w, ds2, w1, w2, p2, f2⟩ := e_take (u := 20) p1 (by omega) (by decide) (by decide)
    exact ⟨w, ds2, w1, by omega, p2, by simp [t__law_right_6, F__law_of, fnSem, g__law_of, mergeB, f1, f2, L2.ixN]⟩
  · obtain ⟨w, ds2, w1, w2, p2, f2⟩ := e_take (u := 150) p1 (by omega) (by decide) (by decide)
    exact ⟨w, ds2, w1, by omega, p2, by simp [t__law_right_6, F__law_of, fnSem, g__law_of, mergeB, f1, f2, L2.ixN]⟩
theorem s7 (a : OkA n d g L) : t__law_right_7 [.ow true ds, .va (film n), .va (dL L), .va (.int d), .va (.int g), .va (.lst ((lagsOf d g L).map D.int)), .va (worst (lagsOf d g L)), .va (.int lag), .un, .un, .un, .un, .un, .un, .un, .un, .un, .un] = .nx [.ow true ds, .va (film n), .va (dL L), .va (.int d), .va (.int g), .va (.lst ((lagsOf d g L).map D.int)), .va (worst (lagsOf d g L)), .va (.int lag), .va (.lst ((delays g lag L).map D.int)), .un, .un, .un, .un, .un, .un, .un, .un, .un] := by
  have k1 : c__law_right_2 [.ow true ds, .va (film n), .va (dL L), .va (.int d), .va (.int g), .va (.lst ((lagsOf d g L).map D.int)), .va (worst (lagsOf d g L)), .va (.int lag), .un, .un, .un, .un, .un, .un, .un, .un, .un, .un] = .ok ((delays g lag L).map D.int, [.ow true ds, .va (film n), .va (dL L), .va (.int d), .va (.int g), .va (.lst ((lagsOf d g L).map D.int)), .va (worst (lagsOf d g L)), .va (.int lag), .un, .un, .un, .un, .un, .un, .un, .un, .un, .un]) := by
    unfold c__law_right_2
    refine oLc_pure ((List.range 101).map fun (i : Nat) => (i : Int)) D.int (fits g lag L) D.int (it_go (k := 101) (by decide) (by rfl)) (by rfl) ?_ (by rw [sizeLine_eq]; simp)
    intro x hx
    have q : c__law_right_1 [.ow true ds, .va (film n), .va (dL L), .va (.int d), .va (.int g), .va (.lst ((lagsOf d g L).map D.int)), .va (worst (lagsOf d g L)), .va (.int lag), .un, .un, .un, .un, .un, .un, .va (.int x), .un, .un, .un] = .ok ((lagsOf x g L).map (fun y => D.bl (decide (y ≤ lag))), [.ow true ds, .va (film n), .va (dL L), .va (.int d), .va (.int g), .va (.lst ((lagsOf d g L).map D.int)), .va (worst (lagsOf d g L)), .va (.int lag), .un, .un, .un, .un, .un, .un, .va (.int x), .un, .un, .un]) := by
      unfold c__law_right_1
      refine oLc_map (lagsOf x g L) D.int _ (by simp [e_law_lags a.ok.l1000]) (by rfl) ?_ (by rw [lags_length]; exact szL a.ok.l1000)
      intro y _
      exact ⟨[(15, .int y)], rfl, by simp, by simp⟩
    exact ⟨[(14, .int x)], rfl, by simp, by simp [q, r_allA, fits], by simp⟩
  simp [t__law_right_7, k1]
theorem s8 (a : OkA n d g L) (h1 : 0 ≤ lag) (h2 : lag ≤ 2000) : t__law_right_8 [.ow true ds, .va (film n), .va (dL L), .va (.int d), .va (.int g), .va (.lst ((lagsOf d g L).map D.int)), .va (worst (lagsOf d g L)), .va (.int lag), .va (.lst ((delays g lag L).map D.int)), .un, .un, .un, .un, .un, .un, .un, .un, .un] = .nx [.ow true ds, .va (film n), .va (dL L), .va (.int d), .va (.int g), .va (.lst ((lagsOf d g L).map D.int)), .va (worst (lagsOf d g L)), .va (.int lag), .va (.lst ((delays g lag L).map D.int)), .un, .un, .un, .un, .un, .un, .un, .un, .un] := by
  obtain ⟨s, hs⟩ := repr_last (g := g) (lag := lag) (L := L)
  have h3 := (repr_same hs).1
  have a0 : OkA n 0 g L := ⟨a.n1, a.n2, by decide, by decide, a.g1, a.g2, a.ok⟩
  have e2 := ne_nil (delays g lag L)
  cases hq : (delays g lag L).getLast? with
  | none =>
    have he := List.getLast?_eq_none_iff.mp hq
    have e4 : lastD (delays g lag L) = .non := by simp [lastD, hq]
    rw [he] at e2
    have e2 : dNe (.lst []) (.lst []) = some (.bl false) := e2
    rw [e4] at hs
    have f1 := e_most_delay a0 h1 h2
    rw [e4] at f1
    rw [he]
    simp [t__law_right_8, f1, e2, hs, h3]
  | some x =>
    have he : (delays g lag L).isEmpty = false := by
      cases h : delays g lag L with
      | nil => rw [h] at hq; cases hq
      | cons _ _ => rfl
    rw [he] at e2
    have e3 := last_ix _ hq
    have e4 : lastD (delays g lag L) = .int x := by simp [lastD, hq]
    have f1 := e_most_delay a0 h1 h2
    rw [e4] at f1 hs
    simp [t__law_right_8, -r_ixL, f1, e2, e3, hs, h3]
theorem eCall_eq {F : FS} {ar : AS} {ρ ρ1 r : List B} {as : List D} {d : D} (h1 : ar ρ = .ok (as, ρ1)) (h2 : F (as.map .va) = .ok (d, r)) : eCall F ar ρ = .ok (d, ρ1) := by
  unfold eCall
  rw [h1, Rs.ok_bind]
  simp only [h2, noX_ok, Rs.ok_bind]
theorem s9 (a : OkA n d g L) : t__law_right_9 [.ow true ds, .va (film n), .va (dL L), .va (.int d), .va (.int g), .va (.lst ((lagsOf d g L).map D.int)), .va (worst (lagsOf d g L)), .va (.int lag), .va (.lst ((delays g lag L).map D.int)), .un, .un, .un, .un, .un, .un, .un, .un, .un] = .nx [.ow true ds, .va (film n), .va (dL L), .va (.int d), .va (.int g), .va (.lst ((lagsOf d g L).map D.int)), .va (worst (lagsOf d g L)), .va (.int lag), .va (.lst ((delays g lag L).map D.int)), .va (.lst ((kn d 0 L).map D.int)), .va (.lst ((onsOf d g L).map D.int)), .un, .un, .un, .un, .un, .un, .un] := by
  have k1 : c__law_right_3 [.ow true ds, .va (film n), .va (dL L), .va (.int d), .va (.int g), .va (.lst ((lagsOf d g L).map D.int)), .va (worst (lagsOf d g L)), .va (.int lag), .va (.lst ((delays g lag L).map D.int)), .un, .un, .un, .un, .un, .un, .un, .un, .un] = .ok ((onsOf d g L).map D.int, [.ow true ds, .va (film n), .va (dL L), .va (.int d), .va (.int g), .va (.lst ((lagsOf d g L).map D.int)), .va (worst (lagsOf d g L)), .va (.int lag), .va (.lst ((delays g lag L).map D.int)), .un, .un, .un, .un, .un, .un, .un, .un, .un]) := by
    unfold c__law_right_3
    have := oLc_map (vs := [16]) (it := (iSeq (eCall F__law_live (aCons (eSlot 2) (aCons (eSlot 3) (aCons (eSlot 4) aNil)))))) (tg := gN 16) (te := (eOp dIx (eSlot 16) (eC (.int 0)))) (ρ := [.ow true ds, .va (film n), .va (dL L), .va (.int d), .va (.int g), .va (.lst ((lagsOf d g L).map D.int)), .va (worst (lagsOf d g L)), .va (.int lag), .va (.lst ((delays g lag L).map D.int)), .un, .un, .un, .un, .un, .un, .un, .un, .un]) (ρ1 := [.ow true ds, .va (film n), .va (dL L), .va (.int d), .va (.int g), .va (.lst ((lagsOf d g L).map D.int)), .va (worst (lagsOf d g L)), .va (.int lag), .va (.lst ((delays g lag L).map D.int)), .un, .un, .un, .un, .un, .un, .un, .un, .un]) (live d g 0 0 L) dSh (fun p => .int p.1) (by simp [e_law_live a.ok.l1000]) (by rfl) (by
      intro p _
      exact ⟨[(16, dSh p)], rfl, by simp, by simp [dSh, L2.ixN]⟩) (by rw [live_length]; exact szL a.ok.l1000)
    rw [this]
    simp [onsOf, Function.comp_def]
  have f1 := e_law_known a.ok.l1000 a.d1 (L := L) (fun l hl => by have := a.ok.each l hl; omega)
  have f2 : eCall F__law_known (aCons (eSlot 2) (aCons (eSlot 3) aNil)) [.ow true ds, .va (film n), .va (dL L), .va (.int d), .va (.int g), .va (.lst ((lagsOf d g L).map D.int)), .va (worst (lagsOf d g L)), .va (.int lag), .va (.lst ((delays g lag L).map D.int)), .un, .un, .un, .un, .un, .un, .un, .un, .un] = .ok (.lst ((kn d 0 L).map D.int), [.ow true ds, .va (film n), .va (dL L), .va (.int d), .va (.int g), .va (.lst ((lagsOf d g L).map D.int)), .va (worst (lagsOf d g L)), .va (.int lag), .va (.lst ((delays g lag L).map D.int)), .un, .un, .un, .un, .un, .un, .un, .un, .un]) := eCall_eq (as := [dL L, .int d]) rfl f1
  simp [-r_eCall, t__law_right_9, f2, k1]
theorem s10 (a : OkA n d g L) (hn : n ≤ 40) (hl : L.length ≤ 7) : ∃ N : Nat, N ≤ 5000 ∧ 3 ≤ N ∧ (∀ x ∈ onsOf d g L, x < N) ∧ t__law_right_10 [.ow true ds, .va (film n), .va (dL L), .va (.int d), .va (.int g), .va (.lst ((lagsOf d g L).map D.int)), .va (worst (lagsOf d g L)), .va (.int lag), .va (.lst ((delays g lag L).map D.int)), .va (.lst ((kn d 0 L).map D.int)), .va (.lst ((onsOf d g L).map D.int)), .un, .un, .un, .un, .un, .un, .un] = .nx [.ow true ds, .va (film n), .va (dL L), .va (.int d), .va (.int g), .va (.lst ((lagsOf d g L).map D.int)), .va (worst (lagsOf d g L)), .va (.int lag), .va (.lst ((delays g lag L).map D.int)), .va (.lst ((kn d 0 L).map D.int)), .va (.lst ((onsOf d g L).map D.int)), .va (.int (N : Int)), .un, .un, .un, .un, .un, .un] := by
  obtain ⟨M, hM⟩ := maxL_some (ls := 0 :: onsOf d g L) (by simp)
  obtain ⟨m1, m2⟩ := maxL_mem hM
  have hb := ons_bd a hn hl
  have b1 : 0 ≤ M := m2 0 (by simp)
  have b2 : M ≤ 4000 := by
    rcases List.mem_cons.mp m1 with e | e
    · omega
    · exact (hb M e).2
  have r := r_maxL (0 :: onsOf d g L)
  rw [hM] at r
  have r : dMax [.lst (.int 0 :: (onsOf d g L).map D.int)] = some (.int M) := r
  have hz : (onsOf d g L).length + 1 ≤ sizeLine := by rw [sizeLine_eq]; simp [onsOf, live_length]; omega
  have hz' : 1 + (onsOf d g L).length ≤ sizeLine := by rw [Nat.add_comm]; exact hz
  have e : dAdd (.lst [.int 0]) (.lst ((onsOf d g L).map D.int)) = some (.lst (.int 0 :: (onsOf d g L).map D.int)) := by
    show (if _ then _ else _) = _
    rw [if_pos (by simpa using hz')]
    rfl
  refine ⟨(M + 3).toNat, by omega, by omega, fun x hx => by have := m2 x (List.mem_cons_of_mem _ hx); omega, ?_⟩
  have e3 : ((M + 3).toNat : Int) = M + 3 := by omega
  rw [e3]
  simp [t__law_right_10, e, r]
theorem zip_rg (K O : List Int) (k : Nat) (h1 : K.length = k) (h2 : O.length = k) : K.zip O = (List.range k).map fun i => (K.getD i 0, O.getD i 0) := by
  refine List.ext_getElem? fun i => ?_
  by_cases hi : i < k
  · rw [List.getElem?_map, List.getElem?_range hi]
    have a1 : i < K.length := by omega
    have a2 : i < O.length := by omega
    simp [List.getElem?_zip_eq_some, a1, a2]
  · rw [List.getElem?_eq_none (by simp; omega), List.getElem?_eq_none (by simp; omega)]
theorem s11 (a : OkA n d g L) (hN : N ≤ 5000) : t__law_right_11 [.ow true ds, .va (film n), .va (dL L), .va (.int d), .va (.int g), .va (.lst ((lagsOf d g L).map D.int)), .va (worst (lagsOf d g L)), .va (.int lag), .va (.lst ((delays g lag L).map D.int)), .va (.lst ((kn d 0 L).map D.int)), .va (.lst ((onsOf d g L).map D.int)), .va (.int (N : Int)), .un, .un, .un, .un, .un, .un] = .nx [.ow true ds, .va (film n), .va (dL L), .va (.int d), .va (.int g), .va (.lst ((lagsOf d g L).map D.int)), .va (worst (lagsOf d g L)), .va (.int lag), .va (.lst ((delays g lag L).map D.int)), .va (.lst ((kn d 0 L).map D.int)), .va (.lst ((onsOf d g L).map D.int)), .va (.int (N : Int)), .va (.lst ((counts (wts d g L) (N + 1)).map D.int)), .un, .un, .un, .un, .un] := by
  have hK : (kn d 0 L).length = L.length := kn_length _ _ _
  have hO : (onsOf d g L).length = L.length := by simp [onsOf, live_length]
  have k1 : c__law_right_5 [.ow true ds, .va (film n), .va (dL L), .va (.int d), .va (.int g), .va (.lst ((lagsOf d g L).map D.int)), .va (worst (lagsOf d g L)), .va (.int lag), .va (.lst ((delays g lag L).map D.int)), .va (.lst ((kn d 0 L).map D.int)), .va (.lst ((onsOf d g L).map D.int)), .va (.int (N : Int)), .un, .un, .un, .un, .un, .un] = .ok ((counts (wts d g L) (N + 1)).map D.int, [.ow true ds, .va (film n), .va (dL L), .va (.int d), .va (.int g), .va (.lst ((lagsOf d g L).map D.int)), .va (worst (lagsOf d g L)), .va (.int lag), .va (.lst ((delays g lag L).map D.int)), .va (.lst ((kn d 0 L).map D.int)), .va (.lst ((onsOf d g L).map D.int)), .va (.int (N : Int)), .un, .un, .un, .un, .un, .un]) := by
    unfold c__law_right_5
    have := oLc_map (vs := [13]) (it := (iRange1 (eOp dAdd (eSlot 11) (eC (.int 1))))) (tg := gN 13) (te := (eBlt dLen (aCons (eO c__law_right_4) aNil))) (ρ := [.ow true ds, .va (film n), .va (dL L), .va (.int d), .va (.int g), .va (.lst ((lagsOf d g L).map D.int)), .va (worst (lagsOf d g L)), .va (.int lag), .va (.lst ((delays g lag L).map D.int)), .va (.lst ((kn d 0 L).map D.int)), .va (.lst ((onsOf d g L).map D.int)), .va (.int (N : Int)), .un, .un, .un, .un, .un, .un]) (ρ1 := [.ow true ds, .va (film n), .va (dL L), .va (.int d), .va (.int g), .va (.lst ((lagsOf d g L).map D.int)), .va (worst (lagsOf d g L)), .va (.int lag), .va (.lst ((delays g lag L).map D.int)), .va (.lst ((kn d 0 L).map D.int)), .va (.lst ((onsOf d g L).map D.int)), .va (.int (N : Int)), .un, .un, .un, .un, .un, .un]) ((List.range (N + 1)).map fun (i : Nat) => (i : Int)) D.int (fun t => D.int (wb (wts d g L) t)) (it_go (k := N + 1) (by omega) (by simp)) (by rfl) (by
      intro t _
      have q : c__law_right_4 [.ow true ds, .va (film n), .va (dL L), .va (.int d), .va (.int g), .va (.lst ((lagsOf d g L).map D.int)), .va (worst (lagsOf d g L)), .va (.int lag), .va (.lst ((delays g lag L).map D.int)), .va (.lst ((kn d 0 L).map D.int)), .va (.lst ((onsOf d g L).map D.int)), .va (.int (N : Int)), .un, .va (.int t), .un, .un, .un, .un] = .ok ((((List.range L.length).map fun (i : Nat) => (i : Int)).filter fun i => decide ((kn d 0 L).getD i.toNat 0 ≤ t) && decide (t < (onsOf d g L).getD i.toNat 0)).map D.int, [.ow true ds, .va (film n), .va (dL L), .va (.int d), .va (.int g), .va (.lst ((lagsOf d g L).map D.int)), .va (worst (lagsOf d g L)), .va (.int lag), .va (.lst ((delays g lag L).map D.int)), .va (.lst ((kn d 0 L).map D.int)), .va (.lst ((onsOf d g L).map D.int)), .va (.int (N : Int)), .un, .va (.int t), .un, .un, .un, .un]) := by
        unfold c__law_right_4
        refine oLc_pure ((List.range L.length).map fun (i : Nat) => (i : Int)) D.int _ D.int (it_go (k := L.length) (by have := a.ok.l1000; omega) (by simp [rfl_len])) (by rfl) ?_ (by rw [List.length_map, List.length_range]; exact szL a.ok.l1000)
        intro x hx
        simp at hx
        obtain ⟨i, hi, rfl⟩ := hx
        have e1 : ixN L.length (i : Int) = some i := by unfold ixN; rw [if_pos (by omega), if_pos (by omega)]; simp
        have i1 : i < (kn d 0 L).length := by omega
        have i2 : i < (onsOf d g L).length := by omega
        refine ⟨[(17, .int i)], rfl, by simp, ?_, by simp⟩
        have gk := List.getElem?_eq_getElem i1
        have go := List.getElem?_eq_getElem i2
        generalize (kn d 0 L)[i] = x at gk
        generalize (onsOf d g L)[i] = y at go
        by_cases hc : x ≤ t
        · simp [hK, hO, e1, gk, go, hc]
        · simp [hK, hO, e1, gk, go, hc]
      have e : wb (wts d g L) t = (((((List.range L.length).map fun (i : Nat) => (i : Int)).filter fun i => decide ((kn d 0 L).getD i.toNat 0 ≤ t) && decide (t < (onsOf d g L).getD i.toNat 0)).map D.int).length : Nat) := by
        unfold wb wts
        rw [zip_rg _ _ L.length hK hO, List.filter_map, List.filter_map, List.length_map, List.length_map, List.length_map]
        rfl
      refine ⟨[(13, .int t)], rfl, by simp, ?_⟩
      rw [e]
      generalize (((List.range L.length).map fun (i : Nat) => (i : Int)).filter fun i => decide ((kn d 0 L).getD i.toNat 0 ≤ t) && decide (t < (onsOf d g L).getD i.toNat 0)).map D.int = z at q ⊢
      simp [q]) (by rw [sizeLine_eq]; simp; omega)
    rw [this]
    simp [counts, Function.comp_def]
  simp [t__law_right_11, k1]
theorem s12 {m : Nat} (hp : PotOk m ds) (hm : m + 100 < 2 ^ 40) (hN : N ≤ 5000) : ∃ (tick : Int) (ds' : List D), 0 ≤ tick ∧ tick < N + 1 ∧ PotOk (m + 1) ds' ∧ t__law_right_12 [.ow true ds, .va (film n), .va (dL L), .va (.int d), .va (.int g), .va (.lst ((lagsOf d g L).map D.int)), .va (worst (lagsOf d g L)), .va (.int lag), .va (.lst ((delays g lag L).map D.int)), .va (.lst ((kn d 0 L).map D.int)), .va (.lst ((onsOf d g L).map D.int)), .va (.int (N : Int)), .va (.lst ((counts (wts d g L) (N + 1)).map D.int)), .un, .un, .un, .un, .un] = .nx [.ow true ds', .va (film n), .va (dL L), .va (.int d), .va (.int g), .va (.lst ((lagsOf d g L).map D.int)), .va (worst (lagsOf d g L)), .va (.int lag), .va (.lst ((delays g lag L).map D.int)), .va (.lst ((kn d 0 L).map D.int)), .va (.lst ((onsOf d g L).map D.int)), .va (.int (N : Int)), .va (.lst ((counts (wts d g L) (N + 1)).map D.int)), .va (.int tick), .un, .un, .un, .un] := by
  obtain ⟨v, ds1, v1, v2, p1, f1⟩ := e_take (u := (N : Int) + 1) hp (by omega) (by omega) (by omega)
  exact ⟨v, ds1, v1, v2, p1, by simp [t__law_right_12, f1]⟩
theorem wb_late (a : OkA n d g L) (h : ∀ x ∈ onsOf d g L, x < N) {t : Int} (ht : (N : Int) ≤ t) : wb (wts d g L) t = 0 := by
  rw [wb_eq, List.countP_eq_zero.mpr fun p hp => by
    have := h p.2 (List.of_mem_zip hp).2
    simp
    omega]
  rfl
theorem wb_small (a : OkA n d g L) (hl : L.length ≤ 7) (t : Int) : 0 ≤ wb (wts d g L) t ∧ wb (wts d g L) t ≤ 7 := by
  refine ⟨wb_nonneg t, ?_⟩
  unfold wb
  have := List.length_filter_le (fun p => decide (p.1 ≤ t) && decide (t < p.2)) (wts d g L)
  rw [wts_len] at this
  omega
theorem s13 (a : OkA n d g L) (hl : L.length ≤ 7) (hN : N ≤ 5000) (h : ∀ x ∈ onsOf d g L, x < N) (t1 : 0 ≤ tick) (t2 : tick < N + 1) : t__law_right_13 [.ow true ds, .va (film n), .va (dL L), .va (.int d), .va (.int g), .va (.lst ((lagsOf d g L).map D.int)), .va (worst (lagsOf d g L)), .va (.int lag), .va (.lst ((delays g lag L).map D.int)), .va (.lst ((kn d 0 L).map D.int)), .va (.lst ((onsOf d g L).map D.int)), .va (.int (N : Int)), .va (.lst ((counts (wts d g L) (N + 1)).map D.int)), .va (.int tick), .un, .un, .un, .un] = .nx [.ow true ds, .va (film n), .va (dL L), .va (.int d), .va (.int g), .va (.lst ((lagsOf d g L).map D.int)), .va (worst (lagsOf d g L)), .va (.int lag), .va (.lst ((delays g lag L).map D.int)), .va (.lst ((kn d 0 L).map D.int)), .va (.lst ((onsOf d g L).map D.int)), .va (.int (N : Int)), .va (.lst ((counts (wts d g L) (N + 1)).map D.int)), .va (.int tick), .un, .un, .un, .un] := by
  have e1 := e_waiting_at (t := tick) a t1 (by omega)
  have e2 := e_waiting_at (t := (N : Int) + 5000) a (by omega) (by omega)
  rw [wb_late a h (by omega)] at e2
  have hb := wb_small a hl tick
  obtain ⟨s, hs⟩ := repr_int (wb (wts d g L) tick) (by omega)
  have h3 := (repr_same hs).1
  obtain ⟨i, rfl⟩ : ∃ i : Nat, tick = i := ⟨tick.toNat, by omega⟩
  have hi : i < N + 1 := by omega
  have hc : (counts (wts d g L) (N + 1)).length = N + 1 := by simp [counts]
  have e3 : dIx (.lst ((counts (wts d g L) (N + 1)).map D.int)) (.int i) = some (.int (wb (wts d g L) i)) := by
    rw [r_ixL]
    have : ixN ((counts (wts d g L) (N + 1)).map D.int).length (i : Int) = some i := by
      rw [List.length_map, hc]
      unfold ixN
      rw [if_pos (by omega), if_pos (by omega)]
      simp
    rw [this]
    simp [counts_at hi]
  simp [t__law_right_13, -r_ixL, e1, e2, e3, hs, h3]
theorem s14 (a : OkA n d g L) (hl : L.length ≤ 7) (hN : N ≤ 5000) (h : ∀ x ∈ onsOf d g L, x < N) : t__law_right_14 [.ow true ds, .va (film n), .va (dL L), .va (.int d), .va (.int g), .va (.lst ((lagsOf d g L).map D.int)), .va (worst (lagsOf d g L)), .va (.int lag), .va (.lst ((delays g lag L).map D.int)), .va (.lst ((kn d 0 L).map D.int)), .va (.lst ((onsOf d g L).map D.int)), .va (.int (N : Int)), .va (.lst ((counts (wts d g L) (N + 1)).map D.int)), .va (.int tick), .un, .un, .un, .un] = .rt (.bl true) [.ow true ds, .va (film n), .va (dL L), .va (.int d), .va (.int g), .va (.lst ((lagsOf d g L).map D.int)), .va (worst (lagsOf d g L)), .va (.int lag), .va (.lst ((delays g lag L).map D.int)), .va (.lst ((kn d 0 L).map D.int)), .va (.lst ((onsOf d g L).map D.int)), .va (.int (N : Int)), .va (.lst ((counts (wts d g L) (N + 1)).map D.int)), .va (.int tick), .un, .un, .un, .un] := by
  obtain ⟨M, hM⟩ := maxL_some (ls := counts (wts d g L) (N + 1)) (by simp [counts])
  obtain ⟨i0, hi0⟩ := findI_mem (maxL_mem hM).1
  have w1 : ∀ p ∈ wts d g L, 1 ≤ p.1 := fun p hp => kn_ge1 a.ok a.d1 _ (List.of_mem_zip hp).1
  have w2 : ∀ p ∈ wts d g L, p.1 < ((N + 1 : Nat) : Int) := fun p hp => by
    have h1 := wts_le d g L 0 0 p hp
    have h2 := h p.2 (List.of_mem_zip hp).2
    omega
  obtain ⟨q1, q2⟩ := most_two w1 w2 (by omega) hM hi0
  have f1 := e_most_waiting a q1 q2
  have hlt := find_lt hi0
  have hc : (counts (wts d g L) (N + 1)).length = N + 1 := by simp [counts]
  have bM : 0 ≤ M ∧ M ≤ 7 := by
    have := (maxL_mem hM).1
    simp [counts] at this
    obtain ⟨j, _, rfl⟩ := this
    exact wb_small a hl _
  obtain ⟨s, hs⟩ := repr_pair M (i0 : Int) (by omega) (by omega)
  have h3 := (repr_same hs).2
  have r := r_maxL (counts (wts d g L) (N + 1))
  rw [hM] at r
  have r : dMax [.lst ((counts (wts d g L) (N + 1)).map D.int)] = some (.int M) := r
  have x := ixI (counts (wts d g L) (N + 1)) M
  rw [hi0] at x
  have x : dIndex (.lst ((counts (wts d g L) (N + 1)).map D.int)) (.int M) = some (.int i0) := x
  have e : dSh (M, (i0 : Int)) = .tup [.int M, .int i0] := rfl
  rw [e] at f1
  generalize (counts (wts d g L) (N + 1)).map D.int = z at r x ⊢
  simp [t__law_right_14, f1, r, x, hs, h3]
theorem e_law_right {m : Nat} (hp : PotOk m ds) (hm : m + 200 < 2 ^ 40) : ∃ ds', PotOk (m + 40) ds' ∧ F__law_right [.ow true ds] = .ok (.bl true, [.ow true ds']) := by
  obtain ⟨n, ds1, n1, n2, p1, f1⟩ := s1 hp (by omega)
  obtain ⟨L, d, g, ds2, a, hl, p2, f2⟩ := s2 p1 (by omega) n1 n2
  have f3 := s3 (ds := ds2) a
  have f4 := s4 (ds := ds2) a
  have f5 := s5 (ds := ds2) a n2 hl
  obtain ⟨lag, ds3, l1, l2, p3, f6⟩ := s6 (n := n) (d := d) (g := g) (L := L) p2 (by omega)
  have f7 := s7 (ds := ds3) (lag := lag) a
  have f8 := s8 (ds := ds3) a l1 l2
  have f9 := s9 (ds := ds3) (lag := lag) a
  obtain ⟨N, hN, hN3, ho, f10⟩ := s10 (ds := ds3) (lag := lag) a n2 hl
  have f11 := s11 (ds := ds3) (lag := lag) a hN
  obtain ⟨tick, ds4, t1, t2, p4, f12⟩ := s12 (n := n) (d := d) (g := g) (lag := lag) (L := L) (N := N) p3 (by omega) hN
  have f13 := s13 (ds := ds4) (lag := lag) a hl hN ho t1 t2
  have f14 := s14 (ds := ds4) (lag := lag) (tick := tick) a hl hN ho
  refine ⟨ds4, PotOk.mono p4 (by omega), ?_⟩
  have fin := (seq_nx f1).trans ((seq_nx f2).trans ((seq_nx f3).trans ((seq_nx f4).trans ((seq_nx f5).trans ((seq_nx f6).trans ((seq_nx f7).trans ((seq_nx f8).trans ((seq_nx f9).trans ((seq_nx f10).trans ((seq_nx f11).trans ((seq_nx f12).trans ((seq_nx f13).trans f14))))))))))))
  refine call_of (ρ' := [.ow true ds4, .va (film n), .va (dL L), .va (.int d), .va (.int g), .va (.lst ((lagsOf d g L).map D.int)), .va (worst (lagsOf d g L)), .va (.int lag), .va (.lst ((delays g lag L).map D.int)), .va (.lst ((kn d 0 L).map D.int)), .va (.lst ((onsOf d g L).map D.int)), .va (.int (N : Int)), .va (.lst ((counts (wts d g L) (N + 1)).map D.int)), .va (.int tick), .un, .un, .un, .un]) rfl ?_ rfl
  rw [g_right_eq]
  exact fin
end My
namespace My
open PySem PySem.Spec PyProof.Rows L2 RT
theorem e_cells (ns : List Int) : ∃ k : Nat, k ≤ 3 ∧ F__law_cells [.va (.lst (ns.map D.int)), .va (.int 3)] = .ok (.lst (((List.range k).map fun (i : Nat) => (i : Int)).map D.int), [.va (.lst (ns.map D.int)), .va (.int 3)]) := by
  obtain ⟨k, hk, e⟩ : ∃ k : Nat, k ≤ 3 ∧ (if (if (ns.length : Int) < 3 then (ns.length : Int) else 3) > 1 then (if (ns.length : Int) < 3 then (ns.length : Int) else 3) else 1) = k := by
    refine ⟨(if (if (ns.length : Int) < 3 then (ns.length : Int) else 3) > 1 then (if (ns.length : Int) < 3 then (ns.length : Int) else 3) else 1).toNat, ?_, ?_⟩
    · split <;> split <;> omega
    · split <;> split <;> omega
  refine ⟨k, hk, ?_⟩
  have h1 : rgD 0 (k : Int) = some (((List.range k).map fun (i : Nat) => (i : Int)).map D.int) := by
    unfold rgD
    rw [if_pos (by omega)]
    simp
  refine call_of (ρ' := [.va (.lst (ns.map D.int)), .va (.int 3)]) rfl ?_ rfl
  have a1 : eBlt dMax (aCons (eC (.int 1)) (aCons (eBlt dMin (aCons (eSlot 1) (aCons (eBlt dLen (aCons (eSlot 0) aNil)) aNil))) aNil)) [.va (.lst (ns.map D.int)), .va (.int 3)] = .ok (.int (k : Int), [.va (.lst (ns.map D.int)), .va (.int 3)]) := by
    rw [← e]
    simp
  show sRet (eO (oRg1 _)) [.va (.lst (ns.map D.int)), .va (.int 3)] = _
  rw [r_sRet, r_eO, r_oRg1, a1, Rs.ok_bind]
  generalize rgD 0 (k : Int) = z at h1
  show sRs (((ofO (rgD 0 (k : Int))).bind _).bind _) _ = _
  rw [show rgD 0 (k : Int) = some (((List.range k).map fun (i : Nat) => (i : Int)).map D.int) from by
    unfold rgD
    rw [if_pos (by omega)]
    simp]
  rfl
theorem e_laps (S : D) (j : Int) {ds : List D} (hp : PotOk 0 ds) : ∃ ds', c_law_1 [.va S, .va (.int j), .ow false ds, .un] = .ok ((List.replicate 6 true).map D.bl, [.va S, .va (.int j), .ow false ds', .un]) := by
  obtain ⟨bs, ds', q1, q2, q3, q4⟩ := oLc_st (it := (iRange1 (eC (.int 6)))) (tg := gN 3) (te := (eCallB 2 F__law_right aNil)) (vs := [3]) (ρ := [.va S, .va (.int j), .ow false ds, .un]) (ρ1 := [.va S, .va (.int j), .ow false ds, .un])
    (fun k s => PotOk (40 * k) s) (fun s => [.va S, .va (.int j), .ow false s, .un]) D.int D.bl (fun _ b => b = true) ((List.range 6).map fun (i : Nat) => (i : Int)) 0 ds hp (it_go (k := 6) (by decide) (by rfl)) (by rfl) (by rfl) (by
      intro a _ k s _ hk hI
      simp at hk
      obtain ⟨s', p', f⟩ := e_law_right hI (by omega)
      exact ⟨[(3, .int a)], true, s', [.va S, .va (.int j), .ow false s', .va (.int a)], rfl, by simp [f], by simp, PotOk.mono p' (by omega), rfl⟩) (by rw [sizeLine_eq]; simp)
  have hb : bs = List.replicate 6 true := by
    have hl : bs.length = 6 := by rw [q3]; rfl
    rw [List.eq_replicate_iff]
    refine ⟨hl, fun b hb => ?_⟩
    obtain ⟨i, hi⟩ := List.getElem?_of_mem hb
    have hlt := (List.getElem?_eq_some_iff.mp hi).1
    rw [hl] at hlt
    exact q4 i i b (by rw [List.getElem?_map, List.getElem?_range hlt]; rfl) hi
  refine ⟨ds', ?_⟩
  unfold c_law_1
  rw [q1, hb]
  rfl
theorem e_law (ns : List Int) : ∃ r, F_law [.va (.lst (ns.map D.int))] = .ok (.bl true, r) := by
  obtain ⟨k, hk, hc⟩ := e_cells ns
  obtain ⟨ρ', h1, h2⟩ := forGo_n (tg := gN 1) (body := b_law_1) (fun j (_ : Unit) ρ => ∃ b1 b2, ρ = [.va (.lst (ns.map D.int)), b1, b2, .un]) D.int (fun _ _ => ()) ((List.range k).map fun (i : Nat) => (i : Int)) 0 () [.va (.lst (ns.map D.int)), .un, .un, .un] ⟨_, _, rfl⟩ (by
    rintro a ha j _ ρ _ ⟨b1, b2, rfl⟩
    simp at ha
    obtain ⟨i, hi, rfl⟩ := ha
    obtain ⟨ds, p, f⟩ := e_pot ns (k := (i : Int)) (by omega) (by omega)
    obtain ⟨ds', g⟩ := e_laps (.lst (ns.map D.int)) (i : Int) p
    have ha : dAll [.lst ((List.replicate 6 true).map D.bl)] = some (.bl true) := by rw [r_allL]; rfl
    have f1 : sSetO 2 (oCall F__law_pot (aCons (eSlot 0) (aCons (eSlot 1) aNil))) [.va (.lst (ns.map D.int)), .va (.int i), b2, .un] = .nx [.va (.lst (ns.map D.int)), .va (.int i), .ow false ds, .un] := by
      simp [f]
    refine ⟨[(1, .int i)], [.va (.lst (ns.map D.int)), .va (.int i), .ow false ds', .un], rfl, ?_, _, _, rfl⟩
    show b_law_1 [.va (.lst (ns.map D.int)), .va (.int i), b2, .un] = _
    unfold b_law_1
    rw [seq_nx f1]
    generalize (List.replicate 6 true).map D.bl = z at g ha
    simp [g, ha])
  obtain ⟨b1, b2, rfl⟩ := h2
  refine ⟨_, call_of (ρ' := [.va (.lst (ns.map D.int)), b1, b2, .un]) rfl ?_ rfl⟩
  rw [g_law_eq]
  have t1 : t_law_1 [.va (.lst (ns.map D.int)), .un, .un, .un] = .nx [.va (.lst (ns.map D.int)), b1, b2, .un] := by
    unfold t_law_1
    rw [r_sFor]
    have e1 : eCall F__law_cells (aCons (eSlot 0) (aCons (eC (.int 3)) aNil)) [.va (.lst (ns.map D.int)), .un, .un, .un] = .ok (.lst (((List.range k).map fun (i : Nat) => (i : Int)).map D.int), [.va (.lst (ns.map D.int)), .un, .un, .un]) := eCall_eq (as := [.lst (ns.map D.int), .int 3]) rfl hc
    rw [r_iSeq, e1, Rs.ok_bind]
    exact h1
  exact (seq_nx t1).trans rfl
end My
namespace My
open PySem PySem.Spec PyProof.Rows L2 RT
def d__law_cells : He.DefD := ⟨("_law_cells", none), "_law_cells", "_law_cells", defArgs s__law_cells, defBody s__law_cells, defScope s__law_cells, [], []⟩
def d__law_pot : He.DefD := ⟨("_law_pot", none), "_law_pot", "_law_pot", defArgs s__law_pot, defBody s__law_pot, defScope s__law_pot, [], []⟩
def d__law_take : He.DefD := ⟨("_law_take", none), "_law_take", "_law_take", defArgs s__law_take, defBody s__law_take, defScope s__law_take, [], []⟩
def d__law_live_lines : He.DefD := ⟨("_law_live_lines", none), "_law_live_lines", "_law_live_lines", defArgs s__law_live_lines, defBody s__law_live_lines, defScope s__law_live_lines, [], []⟩
def d__law_live : He.DefD := ⟨("_law_live", none), "_law_live", "_law_live", defArgs s__law_live, defBody s__law_live, defScope s__law_live, [], []⟩
def d__law_lags : He.DefD := ⟨("_law_lags", none), "_law_lags", "_law_lags", defArgs s__law_lags, defBody s__law_lags, defScope s__law_lags, [], []⟩
def d_is_integer : He.DefD := ⟨("is_integer", none), "is_integer", "is_integer", defArgs s_is_integer, defBody s_is_integer, defScope s_is_integer, [], []⟩
def d_is_between : He.DefD := ⟨("is_between", none), "is_between", "is_between", defArgs s_is_between, defBody s_is_between, defScope s_is_between, [], []⟩
def d_are_between : He.DefD := ⟨("are_between", none), "are_between", "are_between", defArgs s_are_between, defBody s_are_between, defScope s_are_between, [], []⟩
def d_is_ascending : He.DefD := ⟨("is_ascending", none), "is_ascending", "is_ascending", defArgs s_is_ascending, defBody s_is_ascending, defScope s_is_ascending, [], []⟩
def d_is_film : He.DefD := ⟨("is_film", none), "is_film", "is_film", defArgs s_is_film, defBody s_is_film, defScope s_is_film, [], []⟩
def d_check_film : He.DefD := ⟨("check_film", none), "check_film", "check_film", defArgs s_check_film, defBody s_check_film, defScope s_check_film, [], []⟩
def d_is_line : He.DefD := ⟨("is_line", none), "is_line", "is_line", defArgs s_is_line, defBody s_is_line, defScope s_is_line, [], []⟩
def d_are_lines_of : He.DefD := ⟨("are_lines_of", none), "are_lines_of", "are_lines_of", defArgs s_are_lines_of, defBody s_are_lines_of, defScope s_are_lines_of, [], []⟩
def d_check_lines : He.DefD := ⟨("check_lines", none), "check_lines", "check_lines", defArgs s_check_lines, defBody s_check_lines, defScope s_check_lines, [], []⟩
def d_check_whole : He.DefD := ⟨("check_whole", none), "check_whole", "check_whole", defArgs s_check_whole, defBody s_check_whole, defScope s_check_whole, [], []⟩
def d_check_gap : He.DefD := ⟨("check_gap", none), "check_gap", "check_gap", defArgs s_check_gap, defBody s_check_gap, defScope s_check_gap, [], []⟩
def d_check_live : He.DefD := ⟨("check_live", none), "check_live", "check_live", defArgs s_check_live, defBody s_check_live, defScope s_check_live, [], []⟩
def d_known_at : He.DefD := ⟨("known_at", none), "known_at", "known_at", defArgs s_known_at, defBody s_known_at, defScope s_known_at, [], []⟩
def d_shows_by : He.DefD := ⟨("shows_by", none), "shows_by", "shows_by", defArgs s_shows_by, defBody s_shows_by, defScope s_shows_by, [], []⟩
def d_lags_of : He.DefD := ⟨("lags_of", none), "lags_of", "lags_of", defArgs s_lags_of, defBody s_lags_of, defScope s_lags_of, [], []⟩
def d_worst_lag : He.DefD := ⟨("worst_lag", none), "worst_lag", "worst_lag", defArgs s_worst_lag, defBody s_worst_lag, defScope s_worst_lag, [], []⟩
def d__law_of : He.DefD := ⟨("_law_of", none), "_law_of", "_law_of", defArgs s__law_of, defBody s__law_of, defScope s__law_of, [], []⟩
def d_check_lag : He.DefD := ⟨("check_lag", none), "check_lag", "check_lag", defArgs s_check_lag, defBody s_check_lag, defScope s_check_lag, [], []⟩
def d_most_delay : He.DefD := ⟨("most_delay", none), "most_delay", "most_delay", defArgs s_most_delay, defBody s_most_delay, defScope s_most_delay, [], []⟩
def d__law_known : He.DefD := ⟨("_law_known", none), "_law_known", "_law_known", defArgs s__law_known, defBody s__law_known, defScope s__law_known, [], []⟩
def d_waits_of : He.DefD := ⟨("waits_of", none), "waits_of", "waits_of", defArgs s_waits_of, defBody s_waits_of, defScope s_waits_of, [], []⟩
def d_waiting_by : He.DefD := ⟨("waiting_by", none), "waiting_by", "waiting_by", defArgs s_waiting_by, defBody s_waiting_by, defScope s_waiting_by, [], []⟩
def d_waiting_at : He.DefD := ⟨("waiting_at", none), "waiting_at", "waiting_at", defArgs s_waiting_at, defBody s_waiting_at, defScope s_waiting_at, [], []⟩
def d_most_waiting : He.DefD := ⟨("most_waiting", none), "most_waiting", "most_waiting", defArgs s_most_waiting, defBody s_most_waiting, defScope s_most_waiting, [], []⟩
def d__law_right : He.DefD := ⟨("_law_right", none), "_law_right", "_law_right", defArgs s__law_right, defBody s__law_right, defScope s__law_right, [], []⟩
def d_law : He.DefD := ⟨("law", none), "law", "law", defArgs s_law, defBody s_law, defScope s_law, [], []⟩
def fn_0 : List He.DefD := [d__law_cells, d__law_pot, d__law_take, d__law_live_lines, d__law_live, d__law_lags, d_is_integer, d_is_between, d_are_between, d_is_ascending, d_is_film, d_check_film, d_is_line, d_are_lines_of, d_check_lines, d_check_whole, d_check_gap, d_check_live, d_known_at, d_shows_by, d_lags_of, d_worst_lag, d__law_of, d_check_lag, d_most_delay, d__law_known, d_waits_of, d_waiting_by, d_waiting_at, d_most_waiting]
def fn_1 : List He.DefD := [d__law_right, d_law]
def fn : List He.DefD := fn_0 ++ fn_1
def fa_0 : List He.Fa := [.glo "_law_cells", .glo "_law_pot", .glo "_law_take", .glo "_law_live_lines", .glo "_law_live", .glo "_law_lags", .glo "is_integer", .glo "is_between", .glo "are_between", .glo "is_ascending", .glo "is_film", .glo "check_film", .glo "is_line", .glo "are_lines_of", .glo "check_lines", .glo "check_whole", .glo "check_gap", .glo "check_live", .glo "known_at", .glo "shows_by", .glo "lags_of", .glo "worst_lag", .glo "_law_of", .glo "check_lag", .glo "most_delay", .glo "_law_known", .glo "waits_of", .glo "waiting_by", .glo "waiting_at", .glo "most_waiting"]
def fa_1 : List He.Fa := [.glo "_law_right", .glo "law", .free "abs", .free "all", .free "bool", .free "int", .free "isinstance", .free "len", .free "list", .free "max", .free "min", .free "range", .free "repr", .free "sorted", .free "sum", .free "tuple", .free "zip", .int "MOST_TICK" 400, .int "THREE" 3, .int "MOST_LINES" 30, .int "MOST_RULE" 100, .int "MOST_LAG" 2000, .int "MOST_TOLD" 20000]
def fa : List He.Fa := fa_0 ++ fa_1
def loose_0 : List PySem.Str := ["__name__", "FilmError", "BadDelay", "BadFilm", "BadGap", "BadLag", "BadLines", "BadTick", "HasCuts", "is_integer", "is_between", "are_between", "is_ascending", "MOST_TICK", "MOST_LINES", "MOST_RULE", "THREE", "is_film", "check_film", "is_line", "are_lines_of", "check_lines", "check_live", "check_whole", "check_gap", "known_at", "shows_by", "lags_of", "MOST_LAG", "MOST_TOLD"]
def loose_1 : List PySem.Str := ["check_lag", "worst_lag", "most_delay", "waits_of", "waiting_by", "waiting_at", "most_waiting", "_law_pot", "_law_take", "_law_of", "_law_cells", "_law_live", "_law_known", "_law_live_lines", "_law_lags", "_law_right"]
def loose : List PySem.Str := loose_0 ++ loose_1
abbrev R : PySem.W.OpenRow := PySem.W.OpenLaw.row PySem.Challenge.rw_readintime_k59_whole_waiting_lines
abbrev hk : PySem.W.Hook := He.hookD 4 fa fn
def ob (s : PySem.W.SharedT) : He.AlD := He.obsDG 4 fa fn (HandSHeadRun.getT s)
theorem ob_eq (s : PySem.W.SharedT) : ob s = hk.obs s.abs := He.obsDG_eq (HandSHeadRun.getT_eq s)
theorem run (w : World) : HandSHeadRun.RunEq R (PySem.W.view R.prog [51]) hk ob 3000 loose w := by
  intro os
  kernel_rfl
theorem facts {P : Program} {w : World} {K : PySem.W.Frag} {h : Heap} {mg : PySem.Str → Option Value} {f : Addr} (X : K.In h) (G : h.Ns mainGlobals mg) (hfa : mg ("law" : PySem.Str) = some (.ref f)) (c : He.SaysD fa fn K) :
    ∃ fd : FuncData, (∀ (s : Shared) (v : Value), BindsTo s fd ⟨[v], []⟩ [("script", v)]) ∧ ∀ base : Heap, K.In base → base.Ns mainGlobals mg → FnG P w K mg base CX0 11 f fd ["script"] (spF K mg F_law) := by
  obtain ⟨fd__law_cells, D__law_cells⟩ := c.def_ 0 (d := d__law_cells) rfl
  obtain ⟨fd__law_pot, D__law_pot⟩ := c.def_ 1 (d := d__law_pot) rfl
  obtain ⟨fd__law_take, D__law_take⟩ := c.def_ 2 (d := d__law_take) rfl
  obtain ⟨fd__law_live_lines, D__law_live_lines⟩ := c.def_ 3 (d := d__law_live_lines) rfl
  obtain ⟨fd__law_live, D__law_live⟩ := c.def_ 4 (d := d__law_live) rfl
  obtain ⟨fd__law_lags, D__law_lags⟩ := c.def_ 5 (d := d__law_lags) rfl
  obtain ⟨fd_is_integer, D_is_integer⟩ := c.def_ 6 (d := d_is_integer) rfl
  obtain ⟨fd_is_between, D_is_between⟩ := c.def_ 7 (d := d_is_between) rfl
  obtain ⟨fd_are_between, D_are_between⟩ := c.def_ 8 (d := d_are_between) rfl
  obtain ⟨fd_is_ascending, D_is_ascending⟩ := c.def_ 9 (d := d_is_ascending) rfl
  obtain ⟨fd_is_film, D_is_film⟩ := c.def_ 10 (d := d_is_film) rfl
  obtain ⟨fd_check_film, D_check_film⟩ := c.def_ 11 (d := d_check_film) rfl
  obtain ⟨fd_is_line, D_is_line⟩ := c.def_ 12 (d := d_is_line) rfl
  obtain ⟨fd_are_lines_of, D_are_lines_of⟩ := c.def_ 13 (d := d_are_lines_of) rfl
  obtain ⟨fd_check_lines, D_check_lines⟩ := c.def_ 14 (d := d_check_lines) rfl
  obtain ⟨fd_check_whole, D_check_whole⟩ := c.def_ 15 (d := d_check_whole) rfl
  obtain ⟨fd_check_gap, D_check_gap⟩ := c.def_ 16 (d := d_check_gap) rfl
  obtain ⟨fd_check_live, D_check_live⟩ := c.def_ 17 (d := d_check_live) rfl
  obtain ⟨fd_known_at, D_known_at⟩ := c.def_ 18 (d := d_known_at) rfl
  obtain ⟨fd_shows_by, D_shows_by⟩ := c.def_ 19 (d := d_shows_by) rfl
  obtain ⟨fd_lags_of, D_lags_of⟩ := c.def_ 20 (d := d_lags_of) rfl
  obtain ⟨fd_worst_lag, D_worst_lag⟩ := c.def_ 21 (d := d_worst_lag) rfl
  obtain ⟨fd__law_of, D__law_of⟩ := c.def_ 22 (d := d__law_of) rfl
  obtain ⟨fd_check_lag, D_check_lag⟩ := c.def_ 23 (d := d_check_lag) rfl
  obtain ⟨fd_most_delay, D_most_delay⟩ := c.def_ 24 (d := d_most_delay) rfl
  obtain ⟨fd__law_known, D__law_known⟩ := c.def_ 25 (d := d__law_known) rfl
  obtain ⟨fd_waits_of, D_waits_of⟩ := c.def_ 26 (d := d_waits_of) rfl
  obtain ⟨fd_waiting_by, D_waiting_by⟩ := c.def_ 27 (d := d_waiting_by) rfl
  obtain ⟨fd_waiting_at, D_waiting_at⟩ := c.def_ 28 (d := d_waiting_at) rfl
  obtain ⟨fd_most_waiting, D_most_waiting⟩ := c.def_ 29 (d := d_most_waiting) rfl
  obtain ⟨fd__law_right, D__law_right⟩ := c.def_ 30 (d := d__law_right) rfl
  obtain ⟨fd_law, D_law⟩ := c.def_ 31 (d := d_law) rfl
  have n__law_cells := He.glo_ok X G (c.fact 0 (f := .glo "_law_cells") rfl)
  have n__law_pot := He.glo_ok X G (c.fact 1 (f := .glo "_law_pot") rfl)
  have n__law_take := He.glo_ok X G (c.fact 2 (f := .glo "_law_take") rfl)
  have n__law_live_lines := He.glo_ok X G (c.fact 3 (f := .glo "_law_live_lines") rfl)
  have n__law_live := He.glo_ok X G (c.fact 4 (f := .glo "_law_live") rfl)
  have n__law_lags := He.glo_ok X G (c.fact 5 (f := .glo "_law_lags") rfl)
  have n_is_integer := He.glo_ok X G (c.fact 6 (f := .glo "is_integer") rfl)
  have n_is_between := He.glo_ok X G (c.fact 7 (f := .glo "is_between") rfl)
  have n_are_between := He.glo_ok X G (c.fact 8 (f := .glo "are_between") rfl)
  have n_is_ascending := He.glo_ok X G (c.fact 9 (f := .glo "is_ascending") rfl)
  have n_is_film := He.glo_ok X G (c.fact 10 (f := .glo "is_film") rfl)
  have n_check_film := He.glo_ok X G (c.fact 11 (f := .glo "check_film") rfl)
  have n_is_line := He.glo_ok X G (c.fact 12 (f := .glo "is_line") rfl)
  have n_are_lines_of := He.glo_ok X G (c.fact 13 (f := .glo "are_lines_of") rfl)
  have n_check_lines := He.glo_ok X G (c.fact 14 (f := .glo "check_lines") rfl)
  have n_check_whole := He.glo_ok X G (c.fact 15 (f := .glo "check_whole") rfl)
  have n_check_gap := He.glo_ok X G (c.fact 16 (f := .glo "check_gap") rfl)
  have n_check_live := He.glo_ok X G (c.fact 17 (f := .glo "check_live") rfl)
  have n_known_at := He.glo_ok X G (c.fact 18 (f := .glo "known_at") rfl)
  have n_shows_by := He.glo_ok X G (c.fact 19 (f := .glo "shows_by") rfl)
  have n_lags_of := He.glo_ok X G (c.fact 20 (f := .glo "lags_of") rfl)
  have n_worst_lag := He.glo_ok X G (c.fact 21 (f := .glo "worst_lag") rfl)
  have n__law_of := He.glo_ok X G (c.fact 22 (f := .glo "_law_of") rfl)
  have n_check_lag := He.glo_ok X G (c.fact 23 (f := .glo "check_lag") rfl)
  have n_most_delay := He.glo_ok X G (c.fact 24 (f := .glo "most_delay") rfl)
  have n__law_known := He.glo_ok X G (c.fact 25 (f := .glo "_law_known") rfl)
  have n_waits_of := He.glo_ok X G (c.fact 26 (f := .glo "waits_of") rfl)
  have n_waiting_by := He.glo_ok X G (c.fact 27 (f := .glo "waiting_by") rfl)
  have n_waiting_at := He.glo_ok X G (c.fact 28 (f := .glo "waiting_at") rfl)
  have n_most_waiting := He.glo_ok X G (c.fact 29 (f := .glo "most_waiting") rfl)
  have n__law_right := He.glo_ok X G (c.fact 30 (f := .glo "_law_right") rfl)
  have n_law := He.glo_ok X G (c.fact 31 (f := .glo "law") rfl)
  have m_abs := He.free_ok X G (c.fact 32 (f := .free "abs") rfl)
  have m_all := He.free_ok X G (c.fact 33 (f := .free "all") rfl)
  have m_bool := He.free_ok X G (c.fact 34 (f := .free "bool") rfl)
  have m_int := He.free_ok X G (c.fact 35 (f := .free "int") rfl)
  have m_isinstance := He.free_ok X G (c.fact 36 (f := .free "isinstance") rfl)
  have m_len := He.free_ok X G (c.fact 37 (f := .free "len") rfl)
  have m_list := He.free_ok X G (c.fact 38 (f := .free "list") rfl)
  have m_max := He.free_ok X G (c.fact 39 (f := .free "max") rfl)
  have m_min := He.free_ok X G (c.fact 40 (f := .free "min") rfl)
  have m_range := He.free_ok X G (c.fact 41 (f := .free "range") rfl)
  have m_repr := He.free_ok X G (c.fact 42 (f := .free "repr") rfl)
  have m_sorted := He.free_ok X G (c.fact 43 (f := .free "sorted") rfl)
  have m_sum := He.free_ok X G (c.fact 44 (f := .free "sum") rfl)
  have m_tuple := He.free_ok X G (c.fact 45 (f := .free "tuple") rfl)
  have m_zip := He.free_ok X G (c.fact 46 (f := .free "zip") rfl)
  have g_MOST_TICK := He.int_ok X G (c.fact 47 (f := .int "MOST_TICK" 400) rfl)
  have g_THREE := He.int_ok X G (c.fact 48 (f := .int "THREE" 3) rfl)
  have g_MOST_LINES := He.int_ok X G (c.fact 49 (f := .int "MOST_LINES" 30) rfl)
  have g_MOST_RULE := He.int_ok X G (c.fact 50 (f := .int "MOST_RULE" 100) rfl)
  have g_MOST_LAG := He.int_ok X G (c.fact 51 (f := .int "MOST_LAG" 2000) rfl)
  have g_MOST_TOLD := He.int_ok X G (c.fact 52 (f := .int "MOST_TOLD" 20000) rfl)
  have e := hfa.symm.trans n_law
  cases e
  refine ⟨fd_law, fun s v => (FunD.bindsA (ps := ["script"]) D_law fun _ _ _ _ _ _ us hl => match us, hl with | [_], _ => rfl) s [v] rfl, fun base _ _ => ?_⟩
  have C__law_cells : Cal P w K mg base 1 "_law_cells" 2 F__law_cells := ⟨_, _, ["script", "most"], n__law_cells, D__law_cells.kp, rfl, D__law_cells.bindsN (fun _ _ _ _ _ _ us hl => match us, hl with | [_, _], _ => rfl), ok__law_cells m_len m_list m_max m_min m_range D__law_cells⟩
  have C__law_pot : CalO P w K mg base 1 "_law_pot" 2 F__law_pot := ⟨_, _, ["script", "place"], n__law_pot, D__law_pot.kp, rfl, D__law_pot.bindsN (fun _ _ _ _ _ _ us hl => match us, hl with | [_, _], _ => rfl), ok__law_pot m_abs m_int m_len m_sum D__law_pot⟩
  have C__law_take : Cal P w K mg base 1 "_law_take" 2 F__law_take := ⟨_, _, ["pot", "upto"], n__law_take, D__law_take.kp, rfl, D__law_take.bindsN (fun _ _ _ _ _ _ us hl => match us, hl with | [_, _], _ => rfl), ok__law_take m_int D__law_take⟩
  have C__law_live_lines : Cal P w K mg base 2 "_law_live_lines" 3 F__law_live_lines := ⟨_, _, ["pot", "film", "many"], n__law_live_lines, D__law_live_lines.kp, rfl, D__law_live_lines.bindsN (fun _ _ _ _ _ _ us hl => match us, hl with | [_, _, _], _ => rfl), ok__law_live_lines m_min m_range m_sorted m_tuple C__law_take D__law_live_lines⟩
  have C__law_live : Cal P w K mg base 1 "_law_live" 3 F__law_live := ⟨_, _, ["lines", "delay", "gap"], n__law_live, D__law_live.kp, rfl, D__law_live.bindsN (fun _ _ _ _ _ _ us hl => match us, hl with | [_, _, _], _ => rfl), ok__law_live m_max D__law_live⟩
  have C__law_lags : Cal P w K mg base 2 "_law_lags" 3 F__law_lags := ⟨_, _, ["lines", "delay", "gap"], n__law_lags, D__law_lags.kp, rfl, D__law_lags.bindsN (fun _ _ _ _ _ _ us hl => match us, hl with | [_, _, _], _ => rfl), ok__law_lags m_zip C__law_live D__law_lags⟩
  have C_is_integer : Cal P w K mg base 1 "is_integer" 1 F_is_integer := ⟨_, _, ["value"], n_is_integer, D_is_integer.kp, rfl, D_is_integer.bindsN (fun _ _ _ _ _ _ us hl => match us, hl with | [_], _ => rfl), ok_is_integer m_bool m_int m_isinstance D_is_integer⟩
  have C_is_between : Cal P w K mg base 2 "is_between" 3 F_is_between := ⟨_, _, ["value", "low", "high"], n_is_between, D_is_between.kp, rfl, D_is_between.bindsN (fun _ _ _ _ _ _ us hl => match us, hl with | [_, _, _], _ => rfl), ok_is_between C_is_integer D_is_between⟩
  have C_are_between : Cal P w K mg base 3 "are_between" 3 F_are_between := ⟨_, _, ["value", "low", "high"], n_are_between, D_are_between.kp, rfl, D_are_between.bindsN (fun _ _ _ _ _ _ us hl => match us, hl with | [_, _, _], _ => rfl), ok_are_between m_all m_isinstance m_tuple C_is_between D_are_between⟩
  have C_is_ascending : Cal P w K mg base 1 "is_ascending" 1 F_is_ascending := ⟨_, _, ["items"], n_is_ascending, D_is_ascending.kp, rfl, D_is_ascending.bindsN (fun _ _ _ _ _ _ us hl => match us, hl with | [_], _ => rfl), ok_is_ascending m_all m_zip D_is_ascending⟩
  have C_is_film : Cal P w K mg base 4 "is_film" 1 F_is_film := ⟨_, _, ["value"], n_is_film, D_is_film.kp, rfl, D_is_film.bindsN (fun _ _ _ _ _ _ us hl => match us, hl with | [_], _ => rfl), ok_is_film m_isinstance m_len m_tuple g_MOST_TICK C_is_between C_are_between C_is_ascending D_is_film⟩
  have C_check_film : Cal P w K mg base 5 "check_film" 1 F_check_film := ⟨_, _, ["value"], n_check_film, D_check_film.kp, rfl, D_check_film.bindsN (fun _ _ _ _ _ _ us hl => match us, hl with | [_], _ => rfl), ok_check_film C_is_film D_check_film⟩
  have C_is_line : Cal P w K mg base 4 "is_line" 2 F_is_line := ⟨_, _, ["length", "value"], n_is_line, D_is_line.kp, rfl, D_is_line.bindsN (fun _ _ _ _ _ _ us hl => match us, hl with | [_, _], _ => rfl), ok_is_line m_len g_MOST_TICK g_THREE C_are_between D_is_line⟩
  have C_are_lines_of : Cal P w K mg base 5 "are_lines_of" 2 F_are_lines_of := ⟨_, _, ["length", "value"], n_are_lines_of, D_are_lines_of.kp, rfl, D_are_lines_of.bindsN (fun _ _ _ _ _ _ us hl => match us, hl with | [_, _], _ => rfl), ok_are_lines_of m_all m_isinstance m_len m_tuple m_zip g_MOST_LINES C_is_line D_are_lines_of⟩
  have C_check_lines : Cal P w K mg base 6 "check_lines" 2 F_check_lines := ⟨_, _, ["film", "lines"], n_check_lines, D_check_lines.kp, rfl, D_check_lines.bindsN (fun _ _ _ _ _ _ us hl => match us, hl with | [_, _], _ => rfl), ok_check_lines C_check_film C_are_lines_of D_check_lines⟩
  have C_check_whole : Cal P w K mg base 7 "check_whole" 2 F_check_whole := ⟨_, _, ["film", "lines"], n_check_whole, D_check_whole.kp, rfl, D_check_whole.bindsN (fun _ _ _ _ _ _ us hl => match us, hl with | [_, _], _ => rfl), ok_check_whole C_check_film C_check_lines D_check_whole⟩
  have C_check_gap : Cal P w K mg base 3 "check_gap" 1 F_check_gap := ⟨_, _, ["gap"], n_check_gap, D_check_gap.kp, rfl, D_check_gap.bindsN (fun _ _ _ _ _ _ us hl => match us, hl with | [_], _ => rfl), ok_check_gap g_MOST_RULE C_is_between D_check_gap⟩
  have C_check_live : Cal P w K mg base 8 "check_live" 4 F_check_live := ⟨_, _, ["film", "lines", "delay", "gap"], n_check_live, D_check_live.kp, rfl, D_check_live.bindsN (fun _ _ _ _ _ _ us hl => match us, hl with | [_, _, _, _], _ => rfl), ok_check_live g_MOST_RULE C_check_whole C_is_between C_check_gap D_check_live⟩
  have C_known_at : Cal P w K mg base 1 "known_at" 2 F_known_at := ⟨_, _, ["lines", "delay"], n_known_at, D_known_at.kp, rfl, D_known_at.bindsN (fun _ _ _ _ _ _ us hl => match us, hl with | [_, _], _ => rfl), ok_known_at m_max D_known_at⟩
  have C_shows_by : Cal P w K mg base 2 "shows_by" 3 F_shows_by := ⟨_, _, ["lines", "delay", "gap"], n_shows_by, D_shows_by.kp, rfl, D_shows_by.bindsN (fun _ _ _ _ _ _ us hl => match us, hl with | [_, _, _], _ => rfl), ok_shows_by m_max m_zip C_known_at D_shows_by⟩
  have C_lags_of : Cal P w K mg base 3 "lags_of" 3 F_lags_of := ⟨_, _, ["lines", "delay", "gap"], n_lags_of, D_lags_of.kp, rfl, D_lags_of.bindsN (fun _ _ _ _ _ _ us hl => match us, hl with | [_, _, _], _ => rfl), ok_lags_of m_zip C_shows_by D_lags_of⟩
  have C_worst_lag : Cal P w K mg base 9 "worst_lag" 4 F_worst_lag := ⟨_, _, ["film", "lines", "delay", "gap"], n_worst_lag, D_worst_lag.kp, rfl, D_worst_lag.bindsN (fun _ _ _ _ _ _ us hl => match us, hl with | [_, _, _, _], _ => rfl), ok_worst_lag m_max C_check_live C_lags_of D_worst_lag⟩
  have C__law_of : Cal P w K mg base 2 "_law_of" 2 F__law_of := ⟨_, _, ["pot", "some"], n__law_of, D__law_of.kp, rfl, D__law_of.bindsN (fun _ _ _ _ _ _ us hl => match us, hl with | [_, _], _ => rfl), ok__law_of m_len C__law_take D__law_of⟩
  have C_check_lag : Cal P w K mg base 3 "check_lag" 1 F_check_lag := ⟨_, _, ["lag"], n_check_lag, D_check_lag.kp, rfl, D_check_lag.bindsN (fun _ _ _ _ _ _ us hl => match us, hl with | [_], _ => rfl), ok_check_lag g_MOST_LAG C_is_between D_check_lag⟩
  have C_most_delay : Cal P w K mg base 8 "most_delay" 4 F_most_delay := ⟨_, _, ["film", "lines", "gap", "lag"], n_most_delay, D_most_delay.kp, rfl, D_most_delay.bindsN (fun _ _ _ _ _ _ us hl => match us, hl with | [_, _, _, _], _ => rfl), ok_most_delay m_all m_range g_MOST_RULE C_check_whole C_check_gap C_check_lag C_lags_of D_most_delay⟩
  have C__law_known : Cal P w K mg base 1 "_law_known" 2 F__law_known := ⟨_, _, ["lines", "delay"], n__law_known, D__law_known.kp, rfl, D__law_known.bindsN (fun _ _ _ _ _ _ us hl => match us, hl with | [_, _], _ => rfl), ok__law_known m_len m_max m_range D__law_known⟩
  have C_waits_of : Cal P w K mg base 3 "waits_of" 3 F_waits_of := ⟨_, _, ["lines", "delay", "gap"], n_waits_of, D_waits_of.kp, rfl, D_waits_of.bindsN (fun _ _ _ _ _ _ us hl => match us, hl with | [_, _, _], _ => rfl), ok_waits_of m_list m_zip C_shows_by C_known_at D_waits_of⟩
  have C_waiting_by : Cal P w K mg base 1 "waiting_by" 2 F_waiting_by := ⟨_, _, ["waits", "tick"], n_waiting_by, D_waiting_by.kp, rfl, D_waiting_by.bindsN (fun _ _ _ _ _ _ us hl => match us, hl with | [_, _], _ => rfl), ok_waiting_by m_len D_waiting_by⟩
  have C_waiting_at : Cal P w K mg base 9 "waiting_at" 5 F_waiting_at := ⟨_, _, ["film", "lines", "delay", "gap", "tick"], n_waiting_at, D_waiting_at.kp, rfl, D_waiting_at.bindsN (fun _ _ _ _ _ _ us hl => match us, hl with | [_, _, _, _, _], _ => rfl), ok_waiting_at g_MOST_TOLD C_check_live C_is_between C_waits_of C_waiting_by D_waiting_at⟩
  have C_most_waiting : Cal P w K mg base 9 "most_waiting" 4 F_most_waiting := ⟨_, _, ["film", "lines", "delay", "gap"], n_most_waiting, D_most_waiting.kp, rfl, D_most_waiting.bindsN (fun _ _ _ _ _ _ us hl => match us, hl with | [_, _, _, _], _ => rfl), ok_most_waiting m_max m_min C_check_live C_waits_of C_waiting_by D_most_waiting⟩
  have C__law_right : Cal P w K mg base 10 "_law_right" 1 F__law_right := ⟨_, _, ["pot"], n__law_right, D__law_right.kp, rfl, D__law_right.bindsN (fun _ _ _ _ _ _ us hl => match us, hl with | [_], _ => rfl), ok__law_right m_all m_len m_max m_range m_repr C__law_take C__law_live_lines C__law_lags C_worst_lag C__law_of C_most_delay C__law_live C__law_known C_waiting_at C_most_waiting D__law_right⟩
  exact ok_law m_all m_range C__law_cells C__law_pot C__law_right D_law
end My
open PySem PySem.W PySem.Calls PyProof.Rows
theorem PySem.Challenge.cw_readintime_k59_whole_waiting_lines_holds : PySem.Challenge.rw_readintime_k59_whole_waiting_lines.Holds := by
  w_on; o_law
  refine HandSHeadRun.head_any (r := OpenLaw.row PySem.Challenge.rw_readintime_k59_whole_waiting_lines) (q := view (OpenLaw.row PySem.Challenge.rw_readintime_k59_whole_waiting_lines).prog [51]) (H := My.hk) (ob := My.ob) (M := 3000) (loose := My.loose) (d := HandSHeadRun.topDef (OpenLaw.row PySem.Challenge.rw_readintime_k59_whole_waiting_lines).prog 51) (kwd := []) My.ob_eq
    (by kernel_rfl) (fun s => by kernel_rfl) My.run (by kernel_rfl) (by kernel_rfl) (by kernel_rfl) (by rfl) (by first | assumption | decide +kernel) (by decide +kernel) ⟨rfl, rfl, rfl, rfl, rfl, by decide +kernel⟩ ?hw ?hc
  case hw => w_witness2
  case hc =>
    refine RT.walk_ofG (l := PySem.Challenge.rw_readintime_k59_whole_waiting_lines) (n := 63) (k := 11) (x := "script") (F := My.F_law) rfl (by decide) (by kernel_rfl) ⟨rfl, by decide, by decide⟩ ?F (fun ns _ => My.e_law ns)
    intro w mg fa h Y G hmg0
    obtain ⟨K, KX, c⟩ := Y
    have hmg : mg ("law" : PySem.Str) = some (.ref fa) := by
      have e : (HandSHeadRun.topDef (OpenLaw.row PySem.Challenge.rw_readintime_k59_whole_waiting_lines).prog 51).name = ("law" : PySem.Str) := by kernel_rfl
      rw [← e]
      exact hmg0
    obtain ⟨fd, hb, hF⟩ := My.facts (P := (PySem.Challenge.rw_readintime_k59_whole_waiting_lines).prog) (w := w) KX G hmg c
    exact ⟨K, fd, KX, hb, hF⟩
