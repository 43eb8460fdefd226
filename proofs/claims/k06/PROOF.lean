import PyProof.Rows.All
import HandS.Comp
import HandS.Conv
import HandS.Deep
import HandS.Defaults
import HandS.Dict
import HandS.ForExc
import HandS.Head0
import HandS.Head1
import HandS.Head2
import HandS.HeadEnd
import HandS.HeadHook1
import HandS.HeadHook2
import HandS.IsInst
import HandS.Iter
import HandS.RaiseMore
import HandS.SortInts
import HandS.Star
import HandS.Style
import HandS.TupAny
import HandS.TupLe
import HandS.TupMul
import HandS.Walk
import HandS.Wide
import HandS.Zip
import KE.GoesEnum
import KE.GoesMore
import KE.GoesZip
import KE.KDictZip
import KE.KIntText
import KE.KTupSum
import OpenK.AllK
import PyProof.ReprRoads
import PyProof.Rows.SortShellAny
import PyProof.Rows.StrDigitsNeg
import Wide.All
import Wide.FinOn
import PySem.Challenge.RW_readintime_k06_whole_plans_or_full_stret
set_option Elab.async false
set_option linter.all false
set_option maxRecDepth 100000
set_option maxHeartbeats 0
namespace RT
open PySem PySem.Spec PyProof.Rows L2
abbrev St := L2.St
inductive D where
  | non | bl (b : Bool) | int (i : Int) | str (x : Str) | tup (xs : List D) | lst (xs : List D)
inductive Rs (α : Type) where
  | ok (a : α) | exc (c : Str) (x : D) | bad
def Rs.bind {α β : Type} : Rs α → (α → Rs β) → Rs β
  | .ok a, f => f a
  | .exc c x, _ => .exc c x
  | .bad, _ => .bad
@[simp] theorem Rs.ok_bind {α β : Type} (a : α) (f : α → Rs β) : (Rs.ok a).bind f = f a := rfl
@[simp] theorem Rs.exc_bind {α β : Type} (c : Str) (x : D) (f : α → Rs β) : (Rs.exc c x : Rs α).bind f = .exc c x := rfl
@[simp] theorem Rs.bad_bind {α β : Type} (f : α → Rs β) : (Rs.bad : Rs α).bind f = .bad := rfl
def Wr {α : Type} (r : Rs α) (k : α → Prop) (e : Str → D → Prop) : Prop := match r with
  | .ok a => k a
  | .exc c x => e c x
  | .bad => False
theorem Wr.mono {α : Type} {r : Rs α} {k k' : α → Prop} {e e' : Str → D → Prop} (h : Wr r k e) (hk : ∀ a, k a → k' a) (he : ∀ c x, e c x → e' c x) : Wr r k' e' := by
  cases r with
  | ok a => exact hk a h
  | exc c x => exact he c x h
  | bad => exact h
theorem Wr.bind {α β : Type} {r : Rs α} {f : α → Rs β} {k : β → Prop} {e : Str → D → Prop} (h : Wr (r.bind f) k e) : Wr r (fun a => Wr (f a) k e) e := by
  cases r with
  | ok a => exact h
  | exc c x => exact h
  | bad => exact h
inductive B where
  | un | va (d : D) | ow (k : Bool) (ds : List D)
abbrev Env' := List B
abbrev ES := List B → Rs (D × List B)
def KL (K : PySem.W.Frag) (a : Addr) (xs : List V) : Prop :=
  ∃ (o : Obj) (its : Array Value) (n : Nat), K.lookup a = some o ∧ o.cls = .type "list" ∧ o.dict = none ∧ o.data = .seq its n ∧ its.size ≤ sizeLine ∧ Vals xs its.toList ∧ o.slots = #[]
def RdL (K : PySem.W.Frag) (H : Hp) (a : Addr) (xs : List V) : Prop := Rd H a (.lst xs) ∨ KL K a xs
def KT (K : PySem.W.Frag) (a : Addr) (xs : List V) : Prop :=
  ∃ (o : Obj) (its : Array Value) (n : Nat), K.lookup a = some o ∧ o.cls = .type "tuple" ∧ o.data = .seq its n ∧ its.size ≤ sizeLine ∧ Vals xs its.toList
def AtL (K : PySem.W.Frag) (O : Addr → Prop) (H : Hp) (a : Addr) (xs : List V) : Prop := (Rd H a (.lst xs) ∧ ¬ O a) ∨ KL K a xs
def AtT (K : PySem.W.Frag) (O : Addr → Prop) (H : Hp) (a : Addr) (xs : List V) : Prop := (Rd H a (.tup xs) ∧ ¬ O a) ∨ KT K a xs
mutual
inductive Rep (K : PySem.W.Frag) (O : Addr → Prop) (H : Hp) : V → D → Prop
  | non : Rep K O H .non .non
  | bl (b : Bool) : Rep K O H (.bl b) (.bl b)
  | int (i : Int) : Rep K O H (.int i) (.int i)
  | str (x : Str) : Rep K O H (.str x) (.str x)
  | tup {a : Addr} {vs : List V} {ds : List D} : AtT K O H a vs → Reps K O H vs ds → Rep K O H (.ref a) (.tup ds)
  | lst {a : Addr} {vs : List V} {ds : List D} : AtL K O H a vs → Reps K O H vs ds → Rep K O H (.ref a) (.lst ds)
inductive Reps (K : PySem.W.Frag) (O : Addr → Prop) (H : Hp) : List V → List D → Prop
  | nil : Reps K O H [] []
  | cons {v : V} {vs : List V} {d : D} {ds : List D} : Rep K O H v d → Reps K O H vs ds → Reps K O H (v :: vs) (d :: ds)
end
def Ext (W : Addr → Prop) (H H' : Hp) : Prop := ∀ b o, ¬ W b → H b = some o → H' b = some o
theorem Ext.refl (W : Addr → Prop) (H : Hp) : Ext W H H := fun _ _ _ h => h
theorem Ext.trans {W : Addr → Prop} {H H1 H2 : Hp} (a : Ext W H H1) (b : Ext W H1 H2) : Ext W H H2 := fun c o w h => b c o w (a c o w h)
theorem Ext.of_same {W : Addr → Prop} {H H' : Hp} (s : Same H H') : Ext W H H' := fun b o _ h => s b o h
theorem Ext.mono {W W' : Addr → Prop} {H H' : Hp} (e : Ext W H H') (h : ∀ a, W a → W' a) : Ext W' H H' := fun b o w q => e b o (fun z => w (h b z)) q
def Al (O : Addr → Prop) (H : Hp) : Prop := ∀ a, O a → H a ≠ none
section
variable {K : PySem.W.Frag} {O O' W : Addr → Prop} {H H' : Hp} {a : Addr} {xs : List V}
theorem RdL.sq (h : RdL K H a xs) : SqL K H a xs := by
  rcases h with h | ⟨o, its, n, h1, h2, h3, h4, h5, h6, _⟩
  · exact .inl h
  · exact .inr ⟨o, its, n, h1, h2, h3, h4, h5, h6⟩
theorem AtL.rd (h : AtL K O H a xs) : RdL K H a xs := by
  rcases h with h | h
  · exact .inl h.1
  · exact .inr h
theorem AtL.sq (h : AtL K O H a xs) : SqL K H a xs := h.rd.sq
theorem RdL.same (h : RdL K H a xs) (e : Same H H') : RdL K H' a xs := by
  rcases h with (h | ⟨o, h⟩) | h
  · exact .inl (.inl (e a _ h))
  · exact .inl (.inr ⟨o, e a _ h⟩)
  · exact .inr h
theorem RdL.of (h : H a = some (.lst xs)) : RdL K H a xs := .inl (.inl h)
theorem AtT.sq (h : AtT K O H a xs) : SqT K H a xs := by
  rcases h with h | h
  · exact .inl h.1
  · exact .inr h
theorem Rd.ext {u : HO} (h : Rd H a u) (na : ¬ W a) (e : Ext W H H') : Rd H' a u := by
  rcases h with h | ⟨o, h⟩
  · exact .inl (e a _ na h)
  · exact .inr ⟨o, e a _ na h⟩
theorem AtL.ext (h : AtL K O H a xs) (e : Ext W H H') (s : ∀ a, W a → O a) : AtL K O H' a xs := by
  rcases h with ⟨h, n⟩ | h
  · exact .inl ⟨Rd.ext h (fun z => n (s _ z)) e, n⟩
  · exact .inr h
theorem AtT.ext (h : AtT K O H a xs) (e : Ext W H H') (s : ∀ a, W a → O a) : AtT K O H' a xs := by
  rcases h with ⟨h, n⟩ | h
  · exact .inl ⟨Rd.ext h (fun z => n (s _ z)) e, n⟩
  · exact .inr h
theorem Rd.there {u : HO} (h : Rd H a u) : H a ≠ none := by
  rcases h with h | ⟨o, h⟩ <;> rw [h] <;> exact fun z => nomatch z
mutual
theorem Rep.ext {v : V} {d : D} (r : Rep K O H v d) (e : Ext W H H') (s : ∀ a, W a → O a) : Rep K O H' v d := by
  cases r with
  | non => exact .non
  | bl b => exact .bl b
  | int i => exact .int i
  | str x => exact .str x
  | tup h t => exact .tup (h.ext e s) (Reps.ext t e s)
  | lst h t => exact .lst (h.ext e s) (Reps.ext t e s)
theorem Reps.ext {vs : List V} {ds : List D} (r : Reps K O H vs ds) (e : Ext W H H') (s : ∀ a, W a → O a) : Reps K O H' vs ds := by
  cases r with
  | nil => exact .nil
  | cons h t => exact .cons (Rep.ext h e s) (Reps.ext t e s)
end
mutual
theorem Rep.shun {v : V} {d : D} (r : Rep K O H v d) (s : ∀ a, O' a → O a ∨ H a = none) : Rep K O' H v d := by
  cases r with
  | non => exact .non
  | bl b => exact .bl b
  | int i => exact .int i
  | str x => exact .str x
  | tup h t =>
    refine .tup ?_ (Reps.shun t s)
    rcases h with ⟨h, n⟩ | h
    · exact .inl ⟨h, fun z => (s _ z).elim n (Rd.there h)⟩
    · exact .inr h
  | lst h t =>
    refine .lst ?_ (Reps.shun t s)
    rcases h with ⟨h, n⟩ | h
    · exact .inl ⟨h, fun z => (s _ z).elim n (Rd.there h)⟩
    · exact .inr h
theorem Reps.shun {vs : List V} {ds : List D} (r : Reps K O H vs ds) (s : ∀ a, O' a → O a ∨ H a = none) : Reps K O' H vs ds := by
  cases r with
  | nil => exact .nil
  | cons h t => exact .cons (Rep.shun h s) (Reps.shun t s)
end
theorem Rep.less {v : V} {d : D} (r : Rep K O H v d) (s : ∀ a, O' a → O a) : Rep K O' H v d := r.shun fun a z => .inl (s a z)
theorem Reps.less {vs : List V} {ds : List D} (r : Reps K O H vs ds) (s : ∀ a, O' a → O a) : Reps K O' H vs ds := r.shun fun a z => .inl (s a z)
theorem Rep.same {v : V} {d : D} (r : Rep K O H v d) (e : Same H H') : Rep K O H' v d := r.ext (W := fun _ => False) (Ext.of_same e) fun _ z => z.elim
theorem Reps.same {vs : List V} {ds : List D} (r : Reps K O H vs ds) (e : Same H H') : Reps K O H' vs ds := r.ext (W := fun _ => False) (Ext.of_same e) fun _ z => z.elim
theorem Reps.length : ∀ {vs : List V} {ds : List D}, Reps K O H vs ds → vs.length = ds.length
  | [], [], _ => rfl
  | _ :: _, _ :: _, .cons _ t => by rw [List.length_cons, List.length_cons, Reps.length t]
theorem Reps.get : ∀ {vs : List V} {ds : List D} {i : Nat} {v : V} {d : D}, Reps K O H vs ds → vs[i]? = some v → ds[i]? = some d → Rep K O H v d
  | _, _, _, _, _, .nil, h, _ => by simp at h
  | _, _, 0, _, _, .cons r _, h, q => by
    simp at h q; subst h; subst q; exact r
  | _, _, i + 1, _, _, .cons _ t, h, q => Reps.get (i := i) t (by simpa using h) (by simpa using q)
theorem Reps.at_ : ∀ {vs : List V} {ds : List D} {i : Nat} {d : D}, Reps K O H vs ds → ds[i]? = some d → ∃ v, vs[i]? = some v ∧ Rep K O H v d
  | _, _, _, _, .nil, h => by simp at h
  | _, _, 0, _, .cons r _, h => by
    simp at h; subst h; exact ⟨_, rfl, r⟩
  | _, _, i + 1, _, .cons _ t, h => by
    obtain ⟨v, h1, h2⟩ := Reps.at_ (i := i) t (by simpa using h)
    exact ⟨v, by simpa using h1, h2⟩
theorem Reps.append : ∀ {vs ws : List V} {ds es : List D}, Reps K O H vs ds → Reps K O H ws es → Reps K O H (vs ++ ws) (ds ++ es)
  | _, _, _, _, .nil, s => s
  | _, _, _, _, .cons r t, s => .cons r (Reps.append t s)
theorem Reps.one {v : V} {d : D} (r : Rep K O H v d) : Reps K O H [v] [d] := .cons r .nil
theorem Reps.take : ∀ {vs : List V} {ds : List D} (n : Nat), Reps K O H vs ds → Reps K O H (vs.take n) (ds.take n)
  | _, _, 0, _ => .nil
  | _, _, _ + 1, .nil => .nil
  | _, _, n + 1, .cons r t => .cons r (Reps.take n t)
theorem Reps.drop : ∀ {vs : List V} {ds : List D} (n : Nat), Reps K O H vs ds → Reps K O H (vs.drop n) (ds.drop n)
  | _, _, 0, r => r
  | _, _, _ + 1, .nil => .nil
  | _, _, n + 1, .cons _ t => Reps.drop n t
theorem Reps.set {v : V} {d : D} (r : Rep K O H v d) : ∀ {vs : List V} {ds : List D} (i : Nat), Reps K O H vs ds → Reps K O H (vs.set i v) (ds.set i d)
  | _, _, _, .nil => .nil
  | _, _, 0, .cons _ t => .cons r t
  | _, _, i + 1, .cons q t => .cons q (Reps.set r i t)
theorem Reps.reverse : ∀ {vs : List V} {ds : List D}, Reps K O H vs ds → Reps K O H vs.reverse ds.reverse
  | _, _, .nil => .nil
  | _, _, .cons r t => by
    rw [List.reverse_cons, List.reverse_cons]
    exact (Reps.reverse t).append (Reps.one r)
theorem Rep.int_inv {v : V} {i : Int} (r : Rep K O H v (.int i)) : v = .int i := by cases r; rfl
theorem Rep.bl_inv {v : V} {i : Bool} (r : Rep K O H v (.bl i)) : v = .bl i := by cases r; rfl
theorem Rep.str_inv {v : V} {i : Str} (r : Rep K O H v (.str i)) : v = .str i := by cases r; rfl
theorem Rep.non_inv {v : V} (r : Rep K O H v .non) : v = .non := by cases r; rfl
theorem Rep.tup_inv {v : V} {ds : List D} (r : Rep K O H v (.tup ds)) : ∃ a vs, v = .ref a ∧ AtT K O H a vs ∧ Reps K O H vs ds := by
  cases r with
  | tup h t => exact ⟨_, _, rfl, h, t⟩
theorem Rep.lst_inv {v : V} {ds : List D} (r : Rep K O H v (.lst ds)) : ∃ a vs, v = .ref a ∧ AtL K O H a vs ∧ Reps K O H vs ds := by
  cases r with
  | lst h t => exact ⟨_, _, rfl, h, t⟩
theorem Rep.newT {p : Addr} {vs : List V} {ds : List D} (al : Al O H) (n : H p = none) (r : Reps K O H vs ds) : Rep K O (upd H p (.tup vs)) (.ref p) (.tup ds) :=
  .tup (.inl ⟨.inl upd_same, fun z => al p z n⟩) (r.same fun b o e => by rw [upd_ne (ne_of_none e n)]; exact e)
theorem Rep.newL {p : Addr} {vs : List V} {ds : List D} (al : Al O H) (n : H p = none) (r : Reps K O H vs ds) : Rep K O (upd H p (.lst vs)) (.ref p) (.lst ds) :=
  .lst (.inl ⟨.inl upd_same, fun z => al p z n⟩) (r.same fun b o e => by rw [upd_ne (ne_of_none e n)]; exact e)
theorem same_new {p : Addr} {o : HO} (n : H p = none) : Same H (upd H p o) := fun b x e => by
  rw [upd_ne (ne_of_none e n)]
  exact e
theorem Al.ext (al : Al O H) (e : ∀ b o, H b = some o → ∃ o', H' b = some o') : Al O H' := fun a z => by
  cases q : H a with
  | none => exact absurd q (al a z)
  | some o =>
    obtain ⟨o', h⟩ := e a o q
    rw [h]
    exact fun z => nomatch z
theorem Al.same (al : Al O H) (e : Same H H') : Al O H' := al.ext fun b o h => ⟨o, e b o h⟩
def RepW (w : Bool) (K : PySem.W.Frag) (O : Addr → Prop) (H : Hp) (v : V) (d : D) : Prop :=
  Rep K O H v d ∨ (w = true ∧ ∃ a vs ds, v = .ref a ∧ d = .lst ds ∧ RdL K H a vs ∧ Reps K O H vs ds)
theorem RepW.same {w : Bool} {v : V} {d : D} (r : RepW w K O H v d) (e : Same H H') : RepW w K O H' v d := by
  rcases r with r | ⟨hw, a, vs, ds, h1, h2, h3, h4⟩
  · exact .inl (r.same e)
  · exact .inr ⟨hw, a, vs, ds, h1, h2, h3.same e, h4.same e⟩
theorem RepW.strict {v : V} {d : D} (r : RepW false K O H v d) : Rep K O H v d := by
  rcases r with r | ⟨hw, _⟩
  · exact r
  · cases hw
theorem RepW.weak {w : Bool} {v : V} {d : D} (r : RepW w K O H v d) : RepW true K O H v d := by
  rcases r with r | ⟨hw, q⟩
  · exact .inl r
  · exact .inr ⟨rfl, q⟩
theorem RepW.int_inv {w : Bool} {v : V} {i : Int} (r : RepW w K O H v (.int i)) : v = .int i := by
  rcases r with r | ⟨_, _, _, _, _, h, _⟩
  · exact r.int_inv
  · cases h
theorem RepW.bl_inv {w : Bool} {v : V} {i : Bool} (r : RepW w K O H v (.bl i)) : v = .bl i := by
  rcases r with r | ⟨_, _, _, _, _, h, _⟩
  · exact r.bl_inv
  · cases h
theorem RepW.str_inv {w : Bool} {v : V} {i : Str} (r : RepW w K O H v (.str i)) : v = .str i := by
  rcases r with r | ⟨_, _, _, _, _, h, _⟩
  · exact r.str_inv
  · cases h
theorem RepW.non_inv {w : Bool} {v : V} (r : RepW w K O H v .non) : v = .non := by
  rcases r with r | ⟨_, _, _, _, _, h, _⟩
  · exact r.non_inv
  · cases h
theorem RepW.tup_inv {w : Bool} {v : V} {ds : List D} (r : RepW w K O H v (.tup ds)) : ∃ a vs, v = .ref a ∧ AtT K O H a vs ∧ Reps K O H vs ds := by
  rcases r with r | ⟨_, _, _, _, _, h, _⟩
  · exact r.tup_inv
  · cases h
theorem RepW.lst_invR {w : Bool} {v : V} {ds : List D} (r : RepW w K O H v (.lst ds)) : ∃ a vs, v = .ref a ∧ RdL K H a vs ∧ Reps K O H vs ds := by
  rcases r with r | ⟨_, a, vs, ds', h1, h, h3, h4⟩
  · obtain ⟨a, vs, h1, h2, h3⟩ := r.lst_inv
    exact ⟨a, vs, h1, h2.rd, h3⟩
  · cases h
    exact ⟨a, vs, h1, h3, h4⟩
theorem RepW.lst_inv {w : Bool} {v : V} {ds : List D} (r : RepW w K O H v (.lst ds)) : ∃ a vs, v = .ref a ∧ SqL K H a vs ∧ Reps K O H vs ds := by
  obtain ⟨a, vs, h1, h2, h3⟩ := r.lst_invR
  exact ⟨a, vs, h1, h2.sq, h3⟩
end
def SlotR (K : PySem.W.Frag) (O W : Addr → Prop) (x : Option (Option V)) (H : Hp) : B → Prop
  | .un => True
  | .va d => ∃ v, x = some (some v) ∧ Rep K O H v d
  | .ow _ ds => ∃ p vs, x = some (some (.ref p)) ∧ W p ∧ H p = some (.lst vs) ∧ Reps K O H vs ds
def kindB : Option B → Option Bool
  | some (.ow k _) => some k
  | _ => none
abbrev isOw (o : Option B) : Bool := (kindB o).isSome
structure StR (K : PySem.W.Frag) (O W : Addr → Prop) (σ : St) (H : Hp) (ρ : List B) : Prop where
  len : σ.length = ρ.length
  slot : ∀ (i : Nat) (b : B), ρ[i]? = some b → SlotR K O W σ[i]? H b
  apart : ∀ (i j : Nat) (p : Addr), isOw ρ[i]? = true → isOw ρ[j]? = true → σ[i]? = some (some (.ref p)) → σ[j]? = some (some (.ref p)) → i = j
  sub : ∀ a, W a → O a
  al : Al O H
section
variable {K : PySem.W.Frag} {O W : Addr → Prop} {σ : St} {H H' : Hp} {ρ ρ' : List B}
theorem SlotR.same {x : Option (Option V)} {b : B} (s : SlotR K O W x H b) (e : Same H H') : SlotR K O W x H' b := by
  cases b with
  | un => exact trivial
  | va d =>
    obtain ⟨v, h, r⟩ := s
    exact ⟨v, h, r.same e⟩
  | ow k ds =>
    obtain ⟨p, vs, h, hw, hp, r⟩ := s
    exact ⟨p, vs, h, hw, e p _ hp, r.same e⟩
theorem StR.same (s : StR K O W σ H ρ) (e : Same H H') : StR K O W σ H' ρ := ⟨s.len, fun i b h => (s.slot i b h).same e, s.apart, s.sub, s.al.same e⟩
end
def Kd (ρ ρ' : List B) : Prop := ∀ i : Nat, kindB ρ'[i]? = kindB ρ[i]?
structure Post (p : Bool) (K : PySem.W.Frag) (O W : Addr → Prop) (σ : St) (H H' : Hp) (ρ ρ' : List B) : Prop where
  st : StR K O W σ H' ρ'
  ext : Ext W H H'
  kd : Kd ρ ρ'
  pure_ : p = true → Same H H' ∧ ρ' = ρ
section
variable {p q : Bool} {K : PySem.W.Frag} {O W : Addr → Prop} {σ : St} {H H1 H2 H' : Hp} {ρ ρ1 ρ2 ρ' : List B}
theorem Post.refl (s : StR K O W σ H ρ) : Post p K O W σ H H ρ ρ := ⟨s, Ext.refl _ _, fun _ => rfl, fun _ => ⟨fun _ _ h => h, rfl⟩⟩
theorem Post.of_same (s : StR K O W σ H ρ) (e : Same H H') : Post p K O W σ H H' ρ ρ := ⟨s.same e, Ext.of_same e, fun _ => rfl, fun _ => ⟨e, rfl⟩⟩
theorem Post.trans (a : Post p K O W σ H H1 ρ ρ1) (b : Post q K O W σ H1 H2 ρ1 ρ2) : Post (p && q) K O W σ H H2 ρ ρ2 :=
  ⟨b.st, a.ext.trans b.ext, fun i => (b.kd i).trans (a.kd i), fun e => by
    obtain ⟨e1, e2⟩ := Bool.and_eq_true_iff.mp e
    obtain ⟨s1, r1⟩ := a.pure_ e1
    obtain ⟨s2, r2⟩ := b.pure_ e2
    exact ⟨s1.trans s2, r2.trans r1⟩⟩
theorem Post.weak (a : Post p K O W σ H H1 ρ ρ1) (h : q = true → p = true) : Post q K O W σ H H1 ρ ρ1 := ⟨a.st, a.ext, a.kd, fun e => a.pure_ (h e)⟩
theorem Post.more (a : Post p K O W σ H H1 ρ ρ1) (e : Same H1 H2) : Post p K O W σ H H2 ρ ρ1 :=
  ⟨a.st.same e, a.ext.trans (Ext.of_same e), a.kd, fun h => ⟨(a.pure_ h).1.trans e, (a.pure_ h).2⟩⟩
theorem Post.keepW {w : Bool} {v : V} {d : D} (a : Post q K O W σ H H1 ρ ρ1) (h : (!w || q) = true) (r : RepW w K O H v d) : RepW w K O H1 v d := by
  cases q with
  | true => exact r.same (a.pure_ rfl).1
  | false =>
    cases w with
    | true => cases h
    | false =>
      rcases r with r | ⟨hw, _⟩
      · exact .inl (r.ext a.ext a.st.sub)
      · cases hw
end
def ExcR (K : PySem.W.Frag) (mg : Str → Option Value) (O : Addr → Prop) (H : Hp) (c : Str) (x : D) (cls : Value) (d : Option Addr) : Prop :=
  ∃ C dd v, mg c = some (.ref C) ∧ cls = .ref C ∧ d = some dd ∧ H dd = some (.xd [(("value" : Str), v)]) ∧ Rep K O H v x
def EX (X : Cx) (E : XK) (O W : Addr → Prop) (H : Hp) (c : Str) (x : D) : Prop := ∀ cls d H', Ext W H H' → ExcR X.K X.mg O H' c x cls d → E cls d H'
theorem EX.on {X : Cx} {E : XK} {O W : Addr → Prop} {H H1 : Hp} {c : Str} {x : D} (h : EX X E O W H c x) (e : Ext W H H1) : EX X E O W H1 c x := fun cls d H' e' r => h cls d H' (e.trans e') r
structure EV (X : Cx) (E : XK) (p w : Bool) (e : Expr) (f : ES) : Prop where
  ex : ∃ t, PE X e t ∧ ∀ (O W : Addr → Prop) (σ : St) (H : Hp) (ρ : List B) (Q : VK), StR X.K O W σ H ρ →
    Wr (f ρ) (fun r => ∀ v H', Post p X.K O W σ H H' ρ r.2 → RepW w X.K O H' v r.1 → Q v H') (EX X E O W H) → t σ H Q
structure TV (X : Cx) (E : XK) (p : Bool) (e : Expr) (f : List B → Rs (Bool × List B)) : Prop where
  ex : ∃ t, PT X e t ∧ ∀ (O W : Addr → Prop) (σ : St) (H : Hp) (ρ : List B) (Q : Bool → Hp → Prop), StR X.K O W σ H ρ →
    Wr (f ρ) (fun r => ∀ H', Post p X.K O W σ H H' ρ r.2 → Q r.1 H') (EX X E O W H) → t σ H Q
structure AV (X : Cx) (E : XK) (p w : Bool) (es : List Expr) (f : List B → Rs (List D × List B)) : Prop where
  ex : ∃ t, PA X es t ∧ ∀ (O W : Addr → Prop) (σ : St) (H : Hp) (ρ : List B) (Q : List V → Hp → Prop), StR X.K O W σ H ρ →
    Wr (f ρ) (fun r => ∀ vs H', Post p X.K O W σ H H' ρ r.2 → Paired (RepW w X.K O H') vs r.1 → Q vs H') (EX X E O W H) → t σ H Q
structure EO (X : Cx) (E : XK) (p : Bool) (e : Expr) (f : List B → Rs (List D × List B)) : Prop where
  ex : ∃ t, PE X e t ∧ ∀ (O W : Addr → Prop) (σ : St) (H : Hp) (ρ : List B) (Q : VK), StR X.K O W σ H ρ →
    Wr (f ρ) (fun r => ∀ q vs H', H q = none → Post p X.K O W σ H H' ρ r.2 → StR X.K (fun a => O a ∨ a = q) (fun a => W a ∨ a = q) σ H' r.2 → H' q = some (.lst vs) →
      Reps X.K (fun a => O a ∨ a = q) H' vs r.1 → Q (.ref q) H') (EX X E O W H) → t σ H Q
end RT
namespace RT
open PySem PySem.Spec PyProof.Rows L2
def ofO {α : Type} : Option α → Rs α
  | some a => .ok a
  | none => .bad
@[simp] theorem ofO_some {α : Type} (a : α) : ofO (some a) = .ok a := rfl
@[simp] theorem ofO_none {α : Type} : (ofO none : Rs α) = .bad := rfl
theorem Wr.ofO {α : Type} {r : Option α} {k : α → Prop} {e : Str → D → Prop} (h : Wr (ofO r) k e) : ∃ a, r = some a ∧ k a := by
  cases r with
  | some a => exact ⟨a, rfl, h⟩
  | none => exact h.elim
def eC (d : D) : ES := fun ρ => .ok (d, ρ)
def eSlot (i : Nat) : ES := fun ρ => match ρ[i]? with
  | some (.va d) => .ok (d, ρ)
  | _ => .bad
def eSlotW (i : Nat) : ES := fun ρ => match ρ[i]? with
  | some (.va d) => .ok (d, ρ)
  | some (.ow _ ds) => .ok (.lst ds, ρ)
  | _ => .bad
def eOp (f : D → D → Option D) (a b : ES) : ES := fun ρ => (a ρ).bind fun x => (b x.2).bind fun y => (ofO (f x.1 y.1)).bind fun z => .ok (z, y.2)
def eUn (f : D → Option D) (a : ES) : ES := fun ρ => (a ρ).bind fun x => (ofO (f x.1)).bind fun z => .ok (z, x.2)
abbrev BS := List B → Rs (Bool × List B)
def bV (a : ES) : BS := fun ρ => (a ρ).bind fun x => match x.1 with
  | .bl b => .ok (b, x.2)
  | _ => .bad
def bNot (a : BS) : BS := fun ρ => (a ρ).bind fun x => .ok (!x.1, x.2)
def bAnd (a b : BS) : BS := fun ρ => (a ρ).bind fun x => match x.1 with
  | true => b x.2
  | false => .ok (false, x.2)
def bOr (a b : BS) : BS := fun ρ => (a ρ).bind fun x => match x.1 with
  | true => .ok (true, x.2)
  | false => b x.2
def eB (a : BS) : ES := fun ρ => (a ρ).bind fun x => .ok (.bl x.1, x.2)
def eIf (c : BS) (a b : ES) : ES := fun ρ => (c ρ).bind fun x => match x.1 with
  | true => a x.2
  | false => b x.2
def eChain (f g : D → D → Option D) (a b c : ES) : ES := fun ρ => (a ρ).bind fun x => (b x.2).bind fun y => (ofO (f x.1 y.1)).bind fun z => match z with
  | .bl true => (c y.2).bind fun u => (ofO (g y.1 u.1)).bind fun z => match z with
    | .bl k => .ok (.bl k, u.2)
    | _ => .bad
  | .bl false => .ok (.bl false, y.2)
  | _ => .bad
abbrev AS := List B → Rs (List D × List B)
def aNil : AS := fun ρ => .ok ([], ρ)
def aCons (a : ES) (r : AS) : AS := fun ρ => (a ρ).bind fun x => (r x.2).bind fun y => .ok (x.1 :: y.1, y.2)
def eTup (a : AS) : ES := fun ρ => (a ρ).bind fun x => if x.1.length ≤ sizeLine then .ok (.tup x.1, x.2) else .bad
def oLst (a : AS) : AS := fun ρ => (a ρ).bind fun x => if x.1.length ≤ sizeLine then .ok (x.1, x.2) else .bad
def eO (a : AS) : ES := fun ρ => (a ρ).bind fun x => .ok (.lst x.1, x.2)
def eBlt (f : List D → Option D) (a : AS) : ES := fun ρ => (a ρ).bind fun x => (ofO (f x.1)).bind fun z => .ok (z, x.2)
def oBlt (f : List D → Option (List D)) (a : AS) : AS := fun ρ => (a ρ).bind fun x => (ofO (f x.1)).bind fun z => .ok (z, x.2)
def Od (K : PySem.W.Frag) (w1 w2 : Bool) (r : R2) (f : D → D → Option D) : Prop := ∀ (O : Addr → Prop) (H : Hp) (x y : V) (a b c : D) (Q : VK), Al O H → RepW w1 K O H x a → RepW w2 K O H y b → f a b = some c →
  (∀ v H', Same H H' → Rep K O H' v c → Q v H') → r x y H Q
def Ud (K : PySem.W.Frag) (w : Bool) (r : V → Hp → VK → Prop) (f : D → Option D) : Prop := ∀ (O : Addr → Prop) (H : Hp) (x : V) (a c : D) (Q : VK), Al O H → RepW w K O H x a → f a = some c →
  (∀ v H', Same H H' → Rep K O H' v c → Q v H') → r x H Q
def Cd (K : PySem.W.Frag) (w : Bool) (r : List V → Hp → VK → Prop) (f : List D → Option D) : Prop := ∀ (O : Addr → Prop) (H : Hp) (xs : List V) (as : List D) (c : D) (Q : VK), Al O H → Paired (RepW w K O H) xs as → f as = some c →
  (∀ v H', Same H H' → Rep K O H' v c → Q v H') → r xs H Q
def Co (K : PySem.W.Frag) (w : Bool) (r : List V → Hp → VK → Prop) (f : List D → Option (List D)) : Prop := ∀ (O : Addr → Prop) (H : Hp) (xs : List V) (as : List D) (c : List D) (Q : VK), Al O H → Paired (RepW w K O H) xs as → f as = some c →
  (∀ q vs, H q = none → Reps K O H vs c → Q (.ref q) (upd H q (.lst vs))) → r xs H Q
def Oo (K : PySem.W.Frag) (w1 w2 : Bool) (r : R2) (f : D → D → Option (List D)) : Prop := ∀ (O : Addr → Prop) (H : Hp) (x y : V) (a b : D) (c : List D) (Q : VK), Al O H → RepW w1 K O H x a → RepW w2 K O H y b → f a b = some c →
  (∀ q vs, H q = none → Reps K O H vs c → Q (.ref q) (upd H q (.lst vs))) → r x y H Q
section
variable {X : Cx} {E : XK} {p q p3 w w1 w2 : Bool} {a b c e : Expr} {fa fb fc : ES} {pos : Pos} {es : List Expr}
theorem ev_slot (i : Nat) {x : Str} (hN : X.N[i]? = some x := by rfl) (hv : Vis X.env.scope x := by first | exact Or.inl rfl | exact Or.inr (Or.inl rfl) | exact Or.inr (Or.inr rfl)) (hd : (x == ("__debug__" : Str)) = false := by decide)
    (hcd : (x == ("__classdict__" : Str)) = false := by decide) : EV X E true false (.Name x pos) (eSlot i) := by
  refine ⟨_, pe_var hN hv hd hcd, fun O W σ H ρ Q s h => ?_⟩
  unfold eSlot at h
  cases e : ρ[i]? with
  | none => rw [e] at h; exact h.elim
  | some b =>
    rw [e] at h
    cases b with
    | un => exact h.elim
    | ow k ds => exact h.elim
    | va d =>
      obtain ⟨v, h1, h2⟩ := s.slot i _ e
      exact ⟨v, h1, h v H (Post.refl s) (.inl h2)⟩
theorem ev_slotW (i : Nat) {x : Str} (hN : X.N[i]? = some x := by rfl) (hv : Vis X.env.scope x := by first | exact Or.inl rfl | exact Or.inr (Or.inl rfl) | exact Or.inr (Or.inr rfl)) (hd : (x == ("__debug__" : Str)) = false := by decide)
    (hcd : (x == ("__classdict__" : Str)) = false := by decide) : EV X E true true (.Name x pos) (eSlotW i) := by
  refine ⟨_, pe_var hN hv hd hcd, fun O W σ H ρ Q s h => ?_⟩
  unfold eSlotW at h
  cases e : ρ[i]? with
  | none => rw [e] at h; exact h.elim
  | some b =>
    rw [e] at h
    cases b with
    | un => exact h.elim
    | ow k ds =>
      obtain ⟨p, vs, h1, h2, h3, h4⟩ := s.slot i _ e
      exact ⟨.ref p, h1, h _ H (Post.refl s) (.inr ⟨rfl, p, vs, ds, rfl, rfl, RdL.of h3, h4⟩)⟩
    | va d =>
      obtain ⟨v, h1, h2⟩ := s.slot i _ e
      exact ⟨v, h1, h v H (Post.refl s) (.inl h2)⟩
theorem ev_c {v : V} {d : D} (h : PE X e (tC v)) (r : ∀ K O H, Rep K O H v d) : EV X E true false e (eC d) :=
  ⟨_, h, fun O W σ H ρ Q s h => h v H (Post.refl s) (.inl (r _ _ _))⟩
theorem ev_int {i : Int} {j : Nat} : EV X E true false (.Constant (.int i) j pos) (eC (.int i)) := ev_c pe_int fun _ _ _ => .int i
theorem ev_bl {i : Bool} {j : Nat} : EV X E true false (.Constant (.bool i) j pos) (eC (.bl i)) := ev_c pe_bl fun _ _ _ => .bl i
theorem ev_non {j : Nat} : EV X E true false (.Constant .none j pos) (eC .non) := ev_c pe_non fun _ _ _ => .non
theorem ev_str {i : Str} {j : Nat} : EV X E true false (.Constant (.str i) j pos) (eC (.str i)) := ev_c pe_str fun _ _ _ => .str i
theorem ev_gint {x : Str} {i : Int} (hg : Gl X x) (hm : ∃ t, X.mg x = some (.int i t)) (hd : (x == ("__debug__" : Str)) = false := by decide) : EV X E true false (.Name x pos) (eC (.int i)) := by
  obtain ⟨t, hm⟩ := hm
  exact ev_c (pe_glob hg hm (v := .int i) ⟨t, rfl⟩ hd) fun _ _ _ => .int i
theorem ev_gstr {x : Str} {i : Str} (hg : Gl X x) (hm : ∃ t, X.mg x = some (.str i t)) (hd : (x == ("__debug__" : Str)) = false := by decide) : EV X E true false (.Name x pos) (eC (.str i)) := by
  obtain ⟨t, hm⟩ := hm
  exact ev_c (pe_glob hg hm (v := .str i) ⟨t, rfl⟩ hd) fun _ _ _ => .str i
theorem bin2 {ta tb : TE} (ha : ∀ (O W : Addr → Prop) (σ : St) (H : Hp) (ρ : List B) (Q : VK), StR X.K O W σ H ρ → Wr (fa ρ) (fun r => ∀ v H', Post p X.K O W σ H H' ρ r.2 → RepW w1 X.K O H' v r.1 → Q v H') (EX X E O W H) → ta σ H Q)
    (hb : ∀ (O W : Addr → Prop) (σ : St) (H : Hp) (ρ : List B) (Q : VK), StR X.K O W σ H ρ → Wr (fb ρ) (fun r => ∀ v H', Post q X.K O W σ H H' ρ r.2 → RepW w2 X.K O H' v r.1 → Q v H') (EX X E O W H) → tb σ H Q) (hw : (!w1 || q) = true)
    {O W : Addr → Prop} {σ : St} {H : Hp} {ρ : List B} {R : V → V → Hp → Prop} (s : StR X.K O W σ H ρ)
    (h : Wr (fa ρ) (fun x => Wr (fb x.2) (fun y => ∀ v u H', Post (p && q) X.K O W σ H H' ρ y.2 → RepW w1 X.K O H' v x.1 → RepW w2 X.K O H' u y.1 → R v u H') (EX X E O W H)) (EX X E O W H)) :
    ta σ H fun v H1 => tb σ H1 fun u H2 => R v u H2 := by
  refine ha O W σ H ρ _ s (h.mono (fun x hx v H1 p1 r1 => ?_) fun _ _ z => z)
  refine hb O W σ H1 x.2 _ p1.st (hx.mono (fun y hy u H2 p2 r2 => ?_) fun _ _ z => z.on p1.ext)
  exact hy v u H2 (p1.trans p2) (p2.keepW hw r1) r2
theorem ev_op {op : Operator} {r : R2} {f : D → D → Option D} (ho : OpR X (binaryOp op) r) (hd : Od X.K w1 w2 r f) (ha : EV X E p w1 a fa) (hb : EV X E q w2 b fb) (hw : (!w1 || q) = true := by rfl) : EV X E (p && q) w (.BinOp a op b pos) (eOp f fa fb) := by
  obtain ⟨ta, pa, ra⟩ := ha.ex
  obtain ⟨tb, pb, rb⟩ := hb.ex
  refine ⟨_, pe_op ho pa pb, fun O W σ H ρ Q s h => ?_⟩
  refine bin2 ra rb hw s (h.bind.mono (fun x hx => hx.bind.mono (fun y hy v u H' po r1 r2 => ?_) fun _ _ z => z) fun _ _ z => z)
  obtain ⟨z, ez, hz⟩ := hy.bind.ofO
  exact hd O H' v u _ _ z Q po.st.al r1 r2 ez fun v' H2 sm r => hz v' H2 (po.more sm) (.inl r)
theorem ev_cmp {op : CmpOp} {r : R2} {f : D → D → Option D} (ho : OpR X (compareOp op) r) (hd : Od X.K w1 w2 r f) (ha : EV X E p w1 a fa) (hb : EV X E q w2 b fb) (hm : behindInMarks op b = false) (hw : (!w1 || q) = true := by rfl) : EV X E (p && q) w (.Compare a [op] [b] pos) (eOp f fa fb) := by
  obtain ⟨ta, pa, ra⟩ := ha.ex
  obtain ⟨tb, pb, rb⟩ := hb.ex
  refine ⟨_, pe_cmpR ho pa pb hm, fun O W σ H ρ Q s h => ?_⟩
  refine bin2 ra rb hw s (h.bind.mono (fun x hx => hx.bind.mono (fun y hy v u H' po r1 r2 => ?_) fun _ _ z => z) fun _ _ z => z)
  obtain ⟨z, ez, hz⟩ := hy.bind.ofO
  exact hd O H' v u _ _ z Q po.st.al r1 r2 ez fun v' H2 sm r => hz v' H2 (po.more sm) (.inl r)
theorem tv_cmp {op : CmpOp} {r : R2} {f : D → D → Option D} (ho : OpR X (compareOp op) r) (hd : Od X.K w1 w2 r f) (ha : EV X E p w1 a fa) (hb : EV X E q w2 b fb) (hm : behindInMarks op b = false) (hw : (!w1 || q) = true := by rfl) : TV X E (p && q) (.Compare a [op] [b] pos) (bV (eOp f fa fb)) := by
  obtain ⟨ta, pa, ra⟩ := ha.ex
  obtain ⟨tb, pb, rb⟩ := hb.ex
  refine ⟨_, pt_cmpR ho pa pb hm, fun O W σ H ρ Q s h => ?_⟩
  refine bin2 ra rb hw s (h.bind.bind.mono (fun x hx => hx.bind.mono (fun y hy v u H' po r1 r2 => ?_) fun _ _ z => z) fun _ _ z => z)
  obtain ⟨z, ez, hz⟩ := hy.bind.ofO
  refine hd O H' v u _ _ z _ po.st.al r1 r2 ez fun v' H2 sm r => ?_
  cases z with
  | bl k => exact ⟨k, r.bl_inv, hz H2 (po.more sm)⟩
  | _ => exact hz.elim
theorem chain_bl {f g : D → D → Option D} {ρ : List B} {y : D × List B} (h : eChain f g fa fb fc ρ = .ok y) : ∃ k, y.1 = .bl k := by
  unfold eChain at h
  cases e1 : fa ρ with
  | exc c x => rw [e1] at h; cases h
  | bad => rw [e1] at h; cases h
  | ok x =>
    rw [e1, Rs.ok_bind] at h
    cases e2 : fb x.2 with
    | exc c x => rw [e2] at h; cases h
    | bad => rw [e2] at h; cases h
    | ok x2 =>
      rw [e2, Rs.ok_bind] at h
      cases e3 : f x.1 x2.1 with
      | none => rw [e3] at h; cases h
      | some z =>
        rw [e3, ofO_some, Rs.ok_bind] at h
        cases z with
        | bl k =>
          cases k with
          | false => cases h; exact ⟨_, rfl⟩
          | true =>
            have h : ((fc x2.2).bind fun u => (ofO (g x2.1 u.1)).bind fun z => match z with
              | .bl k => .ok (.bl k, u.2)
              | _ => .bad) = .ok y := h
            cases e4 : fc x2.2 with
            | exc c x => rw [e4] at h; cases h
            | bad => rw [e4] at h; cases h
            | ok u =>
              rw [e4, Rs.ok_bind] at h
              cases e5 : g x2.1 u.1 with
              | none => rw [e5] at h; cases h
              | some z =>
                rw [e5, ofO_some, Rs.ok_bind] at h
                cases z with
                | bl k => cases h; exact ⟨_, rfl⟩
                | _ => cases h
        | _ => cases h
theorem chain_rd {r r' : R2} {f g : D → D → Option D} {ta tb tc : TE} (hd : Od X.K false w2 r f) (hd' : Od X.K w2 false r' g)
    (ra : ∀ (O W : Addr → Prop) (σ : St) (H : Hp) (ρ : List B) (Q : VK), StR X.K O W σ H ρ → Wr (fa ρ) (fun r => ∀ v H', Post p X.K O W σ H H' ρ r.2 → RepW false X.K O H' v r.1 → Q v H') (EX X E O W H) → ta σ H Q)
    (rb : ∀ (O W : Addr → Prop) (σ : St) (H : Hp) (ρ : List B) (Q : VK), StR X.K O W σ H ρ → Wr (fb ρ) (fun r => ∀ v H', Post q X.K O W σ H H' ρ r.2 → RepW w2 X.K O H' v r.1 → Q v H') (EX X E O W H) → tb σ H Q)
    (rc : ∀ (O W : Addr → Prop) (σ : St) (H : Hp) (ρ : List B) (Q : VK), StR X.K O W σ H ρ → Wr (fc ρ) (fun r => ∀ v H', Post p3 X.K O W σ H H' ρ r.2 → RepW false X.K O H' v r.1 → Q v H') (EX X E O W H) → tc σ H Q)
    (hw : (!w2 || p3) = true) {O W : Addr → Prop} {σ : St} {H : Hp} {ρ : List B} {Q : VK} (s : StR X.K O W σ H ρ)
    (h : Wr (eChain f g fa fb fc ρ) (fun r => ∀ H', Post (p && q && p3) X.K O W σ H H' ρ r.2 → ∃ k, r.1 = .bl k ∧ Q (.bl k) H') (EX X E O W H)) : tChain r r' ta tb tc σ H Q := by
  unfold eChain at h
  refine bin2 ra rb (by rfl) s (h.bind.mono (fun x hx => hx.bind.mono (fun y hy v u H' po r1 r2 => ?_) fun _ _ z => z) fun _ _ z => z)
  obtain ⟨z, ez, hz⟩ := hy.bind.ofO
  refine hd O H' v u _ _ z _ po.st.al r1 r2 ez fun v' H2 sm rr => ?_
  cases z with
  | bl k =>
    refine ⟨k, rr.bl_inv, ?_⟩
    have po2 := po.more sm
    cases k with
    | false =>
      refine iteF ?_
      have hz : ∀ H', Post (p && q && p3) X.K O W σ H H' ρ y.2 → ∃ k, D.bl false = .bl k ∧ Q (.bl k) H' := hz
      obtain ⟨k, e, hq⟩ := hz H2 (po2.weak fun e => (Bool.and_eq_true_iff.mp e).1)
      cases e
      exact hq
    | true =>
      refine iteT ?_
      have hz : Wr ((fc y.2).bind fun u => (ofO (g y.1 u.1)).bind fun z => match z with
        | .bl k => .ok (D.bl k, u.2)
        | _ => .bad) (fun r => ∀ H', Post (p && q && p3) X.K O W σ H H' ρ r.2 → ∃ k, r.1 = D.bl k ∧ Q (.bl k) H') (EX X E O W H) := hz
      refine rc O W σ H2 y.2 _ po2.st (hz.bind.mono (fun m hm v3 H3 p3' r3 => ?_) fun _ _ z => z.on po2.ext)
      obtain ⟨z, ez, hz⟩ := hm.bind.ofO
      refine hd' O H3 u v3 _ _ z _ p3'.st.al (p3'.keepW hw (r2.same sm)) r3 ez fun v4 H4 sm4 rr4 => ?_
      cases z with
      | bl k =>
        obtain ⟨k', e, hq⟩ := hz H4 ((po2.trans p3').more sm4)
        cases e
        rw [rr4.bl_inv]
        exact hq
      | _ => exact hz.elim
  | _ => exact hz.elim
theorem ev_chain {op op' : CmpOp} {r r' : R2} {f g : D → D → Option D} (ho : OpR X (compareOp op) r) (hd : Od X.K false w2 r f) (ho' : OpR X (compareOp op') r') (hd' : Od X.K w2 false r' g)
    (ha : EV X E p false a fa) (hb : EV X E q w2 b fb) (hc : EV X E p3 false c fc) (hw : (!w2 || p3) = true := by rfl)
    (hm : lastMarks [op, op'] [b, c] = false := by with_unfolding_all rfl) : EV X E (p && q && p3) w (.Compare a [op, op'] [b, c] pos) (eChain f g fa fb fc) := by
  obtain ⟨ta, pa, ra⟩ := ha.ex
  obtain ⟨tb, pb, rb⟩ := hb.ex
  obtain ⟨tc, pc, rc⟩ := hc.ex
  refine ⟨_, pe_chain ho ho' pa pb pc hm, fun O W σ H ρ Q s h => ?_⟩
  refine chain_rd hd hd' ra rb rc hw s ?_
  cases e : eChain f g fa fb fc ρ with
  | exc c x => rw [e] at h; exact h
  | bad => rw [e] at h; exact h
  | ok y =>
    rw [e] at h
    intro H' po
    obtain ⟨k, hk⟩ := chain_bl e
    exact ⟨k, hk, h _ H' po (by rw [hk]; exact .inl (.bl k))⟩
theorem tv_chain {op op' : CmpOp} {r r' : R2} {f g : D → D → Option D} (ho : OpR X (compareOp op) r) (hd : Od X.K false w2 r f) (ho' : OpR X (compareOp op') r') (hd' : Od X.K w2 false r' g)
    (ha : EV X E p false a fa) (hb : EV X E q w2 b fb) (hc : EV X E p3 false c fc) (hw : (!w2 || p3) = true := by rfl)
    (hm : lastMarks [op, op'] [b, c] = false := by with_unfolding_all rfl) : TV X E (p && q && p3) (.Compare a [op, op'] [b, c] pos) (bV (eChain f g fa fb fc)) := by
  obtain ⟨ta, pa, ra⟩ := ha.ex
  obtain ⟨tb, pb, rb⟩ := hb.ex
  obtain ⟨tc, pc, rc⟩ := hc.ex
  refine ⟨_, pt_chain ho ho' pa pb pc hm, fun O W σ H ρ Q s h => ?_⟩
  refine chain_rd (Q := fun x H' => ∃ k, x = .bl k ∧ Q k H') hd hd' ra rb rc hw s (h.bind.mono (fun y hy H' po => ?_) fun _ _ z => z)
  obtain ⟨d, ρ'⟩ := y
  cases d with
  | bl k => exact ⟨k, rfl, k, rfl, hy H' po⟩
  | _ => exact hy.elim
theorem tv_val {t : ES} (h : EV X E p w e t) (he : ∀ whole, isTrue e X.env whole = (do let v ← whole; standAt e.pos; holding [v] (truthy v)) := by intro _; rfl) : TV X E p e (bV t) := by
  obtain ⟨tt, pt, rt⟩ := h.ex
  refine ⟨_, pt_val pt he, fun O W σ H ρ Q s h => ?_⟩
  refine rt O W σ H ρ _ s (h.bind.mono (fun x hx v H' po r => ?_) fun _ _ z => z)
  obtain ⟨d, ρ'⟩ := x
  cases d with
  | bl k => exact ⟨k, r.bl_inv, hx H' po⟩
  | _ => exact hx.elim
variable {ba bb : BS} {rest : List Expr}
theorem tv_not (h : TV X E p a ba) : TV X E p (.UnaryOp .Not a pos) (bNot ba) := by
  obtain ⟨t, pt, rt⟩ := h.ex
  refine ⟨_, pt_not pt, fun O W σ H ρ Q s h => ?_⟩
  exact rt O W σ H ρ _ s (h.bind.mono (fun x hx H' po => hx H' po) fun _ _ z => z)
structure TW (X : Cx) (E : XK) (p : Bool) (e : Expr) (f : BS) : Prop where
  ex : ∃ t, PW X e t ∧ ∀ (O W : Addr → Prop) (σ : St) (H : Hp) (ρ : List B) (Q : Bool → Hp → Prop), StR X.K O W σ H ρ →
    Wr (f ρ) (fun r => ∀ H', Post p X.K O W σ H H' ρ r.2 → Q r.1 H') (EX X E O W H) → t σ H Q
theorem TW.tv (h : TW X E p e ba) : TV X E p e ba := by
  obtain ⟨t, pt, rt⟩ := h.ex
  exact ⟨_, pt.pt, rt⟩
theorem tw_and1 (h : TV X E p a ba) : TW X E p (.BoolOp .And [a] pos) ba := by
  obtain ⟨t, pt, rt⟩ := h.ex
  exact ⟨_, pw_and1 pt, rt⟩
theorem tw_or1 (h : TV X E p a ba) : TW X E p (.BoolOp .Or [a] pos) ba := by
  obtain ⟨t, pt, rt⟩ := h.ex
  exact ⟨_, pw_or1 pt, rt⟩
theorem tw_and (ha : TV X E p a ba) (hb : TW X E q (.BoolOp .And (b :: rest) pos) bb) : TW X E (p && q) (.BoolOp .And (a :: b :: rest) pos) (bAnd ba bb) := by
  obtain ⟨ta, pa, ra⟩ := ha.ex
  obtain ⟨tb, pb, rb⟩ := hb.ex
  refine ⟨_, pw_and pa pb, fun O W σ H ρ Q s h => ?_⟩
  refine ra O W σ H ρ _ s (h.bind.mono (fun x hx H1 p1 => ?_) fun _ _ z => z)
  obtain ⟨k, ρ1⟩ := x
  cases k with
  | true => exact iteT (rb O W σ H1 ρ1 _ p1.st (Wr.mono hx (fun y hy H2 p2 => hy H2 (p1.trans p2)) fun _ _ z => z.on p1.ext))
  | false => exact iteF (hx H1 (p1.weak fun e => (Bool.and_eq_true_iff.mp e).1))
theorem tw_or (ha : TV X E p a ba) (hb : TW X E q (.BoolOp .Or (b :: rest) pos) bb) : TW X E (p && q) (.BoolOp .Or (a :: b :: rest) pos) (bOr ba bb) := by
  obtain ⟨ta, pa, ra⟩ := ha.ex
  obtain ⟨tb, pb, rb⟩ := hb.ex
  refine ⟨_, pw_or pa pb, fun O W σ H ρ Q s h => ?_⟩
  refine ra O W σ H ρ _ s (h.bind.mono (fun x hx H1 p1 => ?_) fun _ _ z => z)
  obtain ⟨k, ρ1⟩ := x
  cases k with
  | false => exact iteF (rb O W σ H1 ρ1 _ p1.st (Wr.mono hx (fun y hy H2 p2 => hy H2 (p1.trans p2)) fun _ _ z => z.on p1.ext))
  | true => exact iteT (hx H1 (p1.weak fun e => (Bool.and_eq_true_iff.mp e).1))
theorem ev_one {op : BoolOp} {t : ES} (h : EV X E p w a t) : EV X E p w (.BoolOp op [a] pos) t := by
  obtain ⟨ta, pa, ra⟩ := h.ex
  exact ⟨_, pe_one pa, ra⟩
def eAnd (a b : ES) : ES := fun ρ => (a ρ).bind fun x => match x.1 with
  | .bl true => b x.2
  | .bl false => .ok (.bl false, x.2)
  | _ => .bad
def eOr (a b : ES) : ES := fun ρ => (a ρ).bind fun x => match x.1 with
  | .bl true => .ok (.bl true, x.2)
  | .bl false => b x.2
  | _ => .bad
def eNot (a : ES) : ES := fun ρ => (a ρ).bind fun x => match x.1 with
  | .bl k => .ok (.bl (!k), x.2)
  | _ => .bad
theorem ev_and (ha : EV X E p w1 a fa) (hb : EV X E q w (.BoolOp .And (b :: rest) pos) fb) : EV X E (p && q) w (.BoolOp .And (a :: b :: rest) pos) (eAnd fa fb) := by
  obtain ⟨ta, pa, ra⟩ := ha.ex
  obtain ⟨tb, pb, rb⟩ := hb.ex
  refine ⟨_, pe_and pa pb, fun O W σ H ρ Q s h => ?_⟩
  refine ra O W σ H ρ _ s (h.bind.mono (fun x hx v H1 p1 r => ?_) fun _ _ z => z)
  obtain ⟨d, ρ1⟩ := x
  cases d with
  | bl k =>
    refine ⟨k, r.bl_inv, ?_⟩
    cases k with
    | true => exact iteT (rb O W σ H1 ρ1 _ p1.st (Wr.mono hx (fun y hy v H2 p2 r2 => hy v H2 (p1.trans p2) r2) fun _ _ z => z.on p1.ext))
    | false => exact iteF (hx _ H1 (p1.weak fun e => (Bool.and_eq_true_iff.mp e).1) (.inl (.bl false)))
  | _ => exact hx.elim
theorem ev_or (ha : EV X E p w1 a fa) (hb : EV X E q w (.BoolOp .Or (b :: rest) pos) fb) : EV X E (p && q) w (.BoolOp .Or (a :: b :: rest) pos) (eOr fa fb) := by
  obtain ⟨ta, pa, ra⟩ := ha.ex
  obtain ⟨tb, pb, rb⟩ := hb.ex
  refine ⟨_, pe_or pa pb, fun O W σ H ρ Q s h => ?_⟩
  refine ra O W σ H ρ _ s (h.bind.mono (fun x hx v H1 p1 r => ?_) fun _ _ z => z)
  obtain ⟨d, ρ1⟩ := x
  cases d with
  | bl k =>
    refine ⟨k, r.bl_inv, ?_⟩
    cases k with
    | false => exact iteF (rb O W σ H1 ρ1 _ p1.st (Wr.mono hx (fun y hy v H2 p2 r2 => hy v H2 (p1.trans p2) r2) fun _ _ z => z.on p1.ext))
    | true => exact iteT (hx _ H1 (p1.weak fun e => (Bool.and_eq_true_iff.mp e).1) (.inl (.bl true)))
  | _ => exact hx.elim
theorem ev_not (ha : EV X E p w1 a fa) : EV X E p w (.UnaryOp .Not a pos) (eNot fa) := by
  obtain ⟨ta, pa, ra⟩ := ha.ex
  refine ⟨_, pe_not pa, fun O W σ H ρ Q s h => ?_⟩
  refine ra O W σ H ρ _ s (h.bind.mono (fun x hx v H1 p1 r => ?_) fun _ _ z => z)
  obtain ⟨d, ρ1⟩ := x
  cases d with
  | bl k => exact ⟨k, r.bl_inv, hx _ H1 p1 (.inl (.bl (!k)))⟩
  | _ => exact hx.elim
theorem ev_if {bc : BS} (hc : TV X E p c bc) (ha : EV X E q w a fa) (hb : EV X E p3 w b fb) : EV X E (p && (q && p3)) w (.IfExp c a b pos) (eIf bc fa fb) := by
  obtain ⟨tc, pc, rc⟩ := hc.ex
  obtain ⟨ta, pa, ra⟩ := ha.ex
  obtain ⟨tb, pb, rb⟩ := hb.ex
  refine ⟨_, pe_ifExp pc pa pb, fun O W σ H ρ Q s h => ?_⟩
  refine rc O W σ H ρ _ s (h.bind.mono (fun x hx H1 p1 => ?_) fun _ _ z => z)
  obtain ⟨k, ρ1⟩ := x
  cases k with
  | true => exact iteT (ra O W σ H1 ρ1 _ p1.st (Wr.mono hx (fun y hy v H2 p2 r2 => hy v H2 ((p1.trans p2).weak fun e => by
      obtain ⟨e1, e2⟩ := Bool.and_eq_true_iff.mp e
      rw [e1, (Bool.and_eq_true_iff.mp e2).1] <;> rfl) r2) fun _ _ z => z.on p1.ext))
  | false => exact iteF (rb O W σ H1 ρ1 _ p1.st (Wr.mono hx (fun y hy v H2 p2 r2 => hy v H2 ((p1.trans p2).weak fun e => by
      obtain ⟨e1, e2⟩ := Bool.and_eq_true_iff.mp e
      rw [e1, (Bool.and_eq_true_iff.mp e2).2] <;> rfl) r2) fun _ _ z => z.on p1.ext))
theorem ev_un {op : UnaryOp} {r : V → Hp → VK → Prop} {f : D → Option D} (ho : UnR X (unaryOp op) r) (hd : Ud X.K w1 r f) (ha : EV X E p w1 a fa) : EV X E p w (.UnaryOp op a pos) (eUn f fa) := by
  obtain ⟨ta, pa, ra⟩ := ha.ex
  refine ⟨_, pe_un ho pa, fun O W σ H ρ Q s h => ?_⟩
  refine ra O W σ H ρ _ s (h.bind.mono (fun x hx v H1 p1 r => ?_) fun _ _ z => z)
  obtain ⟨z, ez, hz⟩ := hx.bind.ofO
  exact hd O H1 v _ z Q p1.st.al r ez fun v' H2 sm r => hz v' H2 (p1.more sm) (.inl r)
theorem av_nil : AV X E true w [] aNil := ⟨_, pa_nil, fun O W σ H ρ Q s h => h [] H (Post.refl s) .nil⟩
theorem Paired.keep {q : Bool} {O W : Addr → Prop} {σ : St} {H H1 : Hp} {ρ ρ1 : List B} (po : Post q X.K O W σ H H1 ρ ρ1) (hw : (!w || q) = true) : ∀ {vs : List V} {ds : List D}, Paired (RepW w X.K O H) vs ds → Paired (RepW w X.K O H1) vs ds
  | _, _, .nil => .nil
  | _, _, .cons r t => .cons (po.keepW hw r) (Paired.keep po hw t)
theorem av_cons {ar : AS} (ha : EV X E p w e fa) (hr : AV X E q w es ar) (hw : (!w || q) = true := by rfl) (hs : starEach (e :: es) X.env = (false, eval e X.env) :: starEach es X.env := by rfl) : AV X E (p && q) w (e :: es) (aCons fa ar) := by
  obtain ⟨ta, pa, ra⟩ := ha.ex
  obtain ⟨tb, pb, rb⟩ := hr.ex
  refine ⟨_, pa_cons pa pb hs, fun O W σ H ρ Q s h => ?_⟩
  refine ra O W σ H ρ _ s (h.bind.mono (fun x hx v H1 p1 r => ?_) fun _ _ z => z)
  refine rb O W σ H1 x.2 _ p1.st (hx.bind.mono (fun y hy vs H2 p2 r2 => ?_) fun _ _ z => z.on p1.ext)
  exact hy (v :: vs) H2 (p1.trans p2) (.cons (p2.keepW hw r) r2)
theorem reps_of {O : Addr → Prop} {H : Hp} {K : PySem.W.Frag} : ∀ {vs : List V} {ds : List D}, Paired (RepW false K O H) vs ds → Reps K O H vs ds
  | _, _, .nil => .nil
  | _, _, .cons r t => .cons r.strict (reps_of t)
theorem Post.newObj {p : Bool} {K : PySem.W.Frag} {O W : Addr → Prop} {σ : St} {H H1 : Hp} {ρ ρ1 : List B} {a : Addr} {o : HO} (po : Post p K O W σ H H1 ρ ρ1) (n : H1 a = none) : Post p K O W σ H (upd H1 a o) ρ ρ1 := po.more (same_new n)
theorem ev_tup {k : Nat} {ar : AS} (ha : AV X E p false es ar) : EV X E p w (.Tuple es k pos) (eTup ar) := by
  obtain ⟨ta, pa, ra⟩ := ha.ex
  refine ⟨_, pe_tup pa, fun O W σ H ρ Q s h => ?_⟩
  refine ra O W σ H ρ _ s (h.bind.mono (fun x hx vs H1 p1 r => ?_) fun _ _ z => z)
  have rr := reps_of r
  by_cases hl : x.1.length ≤ sizeLine
  · rw [if_pos hl] at hx
    refine ⟨by rw [rr.length]; exact hl, fun t nt => ?_⟩
    exact hx _ _ (p1.newObj nt) (.inl (Rep.newT p1.st.al nt rr))
  · rw [if_neg hl] at hx
    exact hx.elim
theorem StR.grow {K : PySem.W.Frag} {O W : Addr → Prop} {σ : St} {H : Hp} {ρ : List B} {a : Addr} {o : HO} (s : StR K O W σ H ρ) (n : H a = none) : StR K (fun b => O b ∨ b = a) (fun b => W b ∨ b = a) σ (upd H a o) ρ := by
  have sm : Same H (upd H a o) := same_new n
  refine ⟨s.len, fun i b e => ?_, s.apart, fun b z => z.elim (fun z => .inl (s.sub b z)) .inr, fun b z => ?_⟩
  · have q := s.slot i b e
    cases b with
    | un => exact trivial
    | va d =>
      obtain ⟨v, h1, h2⟩ := q
      exact ⟨v, h1, (h2.shun fun b z => z.elim .inl fun e => .inr (by rw [e]; exact n)).same sm⟩
    | ow k ds =>
      obtain ⟨p, vs, h1, h2, h3, h4⟩ := q
      exact ⟨p, vs, h1, .inl h2, sm p _ h3, (h4.shun fun b z => z.elim .inl fun e => .inr (by rw [e]; exact n)).same sm⟩
  · rcases z with z | z
    · cases q : H b with
      | none => exact absurd q (s.al b z)
      | some u => rw [sm b u q]; exact fun z => nomatch z
    · rw [z, upd_same]; exact fun z => nomatch z
theorem Reps.grow {K : PySem.W.Frag} {O : Addr → Prop} {H : Hp} {vs : List V} {ds : List D} {a : Addr} {o : HO} (r : Reps K O H vs ds) (n : H a = none) : Reps K (fun b => O b ∨ b = a) (upd H a o) vs ds :=
  (r.shun fun b z => z.elim .inl fun e => .inr (by rw [e]; exact n)).same (same_new n)
theorem eo_end {O W : Addr → Prop} {σ : St} {H H1 : Hp} {ρ ρ1 : List B} {ds : List D} {Q : VK}
    (h : ∀ q vs H', H q = none → Post p X.K O W σ H H' ρ ρ1 → StR X.K (fun a => O a ∨ a = q) (fun a => W a ∨ a = q) σ H' ρ1 → H' q = some (.lst vs) → Reps X.K (fun a => O a ∨ a = q) H' vs ds → Q (.ref q) H')
    (po : Post p X.K O W σ H H1 ρ ρ1) (q : Addr) (vs : List V) (n : H1 q = none) (r : Reps X.K O H1 vs ds) (hl : H q = none) : Q (.ref q) (upd H1 q (.lst vs)) :=
  h q vs _ hl (po.newObj n) (po.st.grow n) upd_same (r.grow n)
theorem Post.free {K : PySem.W.Frag} {O W : Addr → Prop} {σ : St} {H H1 : Hp} {ρ ρ1 : List B} (po : Post p K O W σ H H1 ρ ρ1) (al : ∀ a, W a → H1 a ≠ none) {q : Addr} (n : H1 q = none) : H q = none := by
  cases e : H q with
  | none => rfl
  | some o =>
    by_cases hw : W q
    · exact absurd n (al q hw)
    · rw [po.ext q o hw e] at n; cases n
theorem Post.free' {K : PySem.W.Frag} {O W : Addr → Prop} {σ : St} {H H1 : Hp} {ρ ρ1 : List B} (po : Post p K O W σ H H1 ρ ρ1) {q : Addr} (n : H1 q = none) : H q = none := po.free (fun a z => po.st.al a (po.st.sub a z)) n
theorem eo_lst {ar : AS} (ha : AV X E p false es ar) : EO X E p (.List es pos) (oLst ar) := by
  obtain ⟨ta, pa, ra⟩ := ha.ex
  refine ⟨_, pe_lst pa, fun O W σ H ρ Q s h => ?_⟩
  refine ra O W σ H ρ _ s (h.bind.mono (fun x hx vs H1 p1 r => ?_) fun _ _ z => z)
  have rr := reps_of r
  by_cases hl : x.1.length ≤ sizeLine
  · rw [if_pos hl] at hx
    exact ⟨by rw [rr.length]; exact hl, fun t nt => eo_end hx p1 t vs nt rr (p1.free' nt)⟩
  · rw [if_neg hl] at hx
    exact hx.elim
theorem ev_o {ar : AS} (h : EO X E p e ar) : EV X E p w e (eO ar) := by
  obtain ⟨t, pt, rt⟩ := h.ex
  refine ⟨_, pt, fun O W σ H ρ Q s h => ?_⟩
  refine rt O W σ H ρ _ s (h.bind.mono (fun x hx q vs H' hn po st hq r => ?_) fun _ _ z => z)
  exact hx _ H' po (.inl (.lst (.inl ⟨.inl hq, fun z => s.al q z hn⟩) (r.less fun a z => .inl z)))
end
end RT
namespace RT
open PySem PySem.Spec PyProof.Rows L2
inductive Fl where
  | nx (ρ : List B) | rt (d : D) (ρ : List B) | bk (ρ : List B) | ct (ρ : List B) | ex (c : Str) (x : D) | ro (ds : List D) (ρ : List B) | bad
structure Bs where
  args : List V
  O : Addr → Prop
  W : Addr → Prop
  H : Hp
structure SI (K : PySem.W.Frag) (b : Bs) (O W : Addr → Prop) (σ : St) (H : Hp) (ρ : List B) : Prop where
  st : StR K O W σ H ρ
  ext : Ext b.W b.H H
  bal : Al b.O b.H
  up : ∀ a, b.O a → O a
  bsub : ∀ a, b.W a → b.O a
  own : ∀ a, W a → b.W a ∨ b.H a = none
  loc : ∀ (i : Nat) (p : Addr), kindB ρ[i]? = some false → σ[i]? = some (some (.ref p)) → b.H p = none
  bor : ∀ (i : Nat), kindB ρ[i]? = some true → ∃ v, b.args[i]? = some v ∧ σ[i]? = some (some v)
structure Tr (O W : Addr → Prop) (H : Hp) (O' W' : Addr → Prop) (H' : Hp) : Prop where
  ext : Ext W H H'
  ow : ∀ a, O' a → O a ∨ H a = none
  ww : ∀ a, W' a → W a ∨ H a = none
theorem Tr.refl {O W : Addr → Prop} {H : Hp} : Tr O W H O W H := ⟨Ext.refl _ _, fun _ z => .inl z, fun _ z => .inl z⟩
theorem Tr.trans {O W O1 W1 O2 W2 : Addr → Prop} {H H1 H2 : Hp} (s : ∀ a, W a → O a) (a : Tr O W H O1 W1 H1) (b : Tr O1 W1 H1 O2 W2 H2) : Tr O W H O2 W2 H2 := by
  have ex : Ext W H H2 := fun c o w h => b.ext c o (fun z => (a.ww c z).elim w fun e => by rw [h] at e; cases e) (a.ext c o w h)
  have back : ∀ c, H1 c = none → O c ∨ H c = none := fun c n => by
    cases e : H c with
    | none => exact .inr rfl
    | some o =>
      by_cases w : W c
      · exact .inl (s c w)
      · rw [a.ext c o w e] at n; cases n
  have backW : ∀ c, H1 c = none → W c ∨ H c = none := fun c n => by
    cases e : H c with
    | none => exact .inr rfl
    | some o =>
      by_cases w : W c
      · exact .inl w
      · rw [a.ext c o w e] at n; cases n
  exact ⟨ex, fun c z => (b.ow c z).elim (a.ow c) (back c), fun c z => (b.ww c z).elim (a.ww c) (backW c)⟩
theorem Rep.tr {K : PySem.W.Frag} {O W O' W' : Addr → Prop} {H H' : Hp} {v : V} {d : D} (r : Rep K O H v d) (s : ∀ a, W a → O a) (t : Tr O W H O' W' H') : Rep K O' H' v d :=
  ((r.shun (O' := fun a => O a ∨ O' a) fun a z => z.elim .inl (t.ow a)).ext t.ext fun a z => .inl (s a z)).less fun a z => .inr z
theorem Reps.tr {K : PySem.W.Frag} {O W O' W' : Addr → Prop} {H H' : Hp} {v : List V} {d : List D} (r : Reps K O H v d) (s : ∀ a, W a → O a) (t : Tr O W H O' W' H') : Reps K O' H' v d :=
  ((r.shun (O' := fun a => O a ∨ O' a) fun a z => z.elim .inl (t.ow a)).ext t.ext fun a z => .inl (s a z)).less fun a z => .inr z
def FlOk (X : Cx) (E : XK) (b : Bs) (O W : Addr → Prop) (H : Hp) (De : Ends) : Fl → Prop
  | .nx ρ => ∀ O' W' σ' H', SI X.K b O' W' σ' H' ρ → Tr O W H O' W' H' → De.nx σ' H'
  | .rt d ρ => ∀ v O' W' σ' H', SI X.K b O' W' σ' H' ρ → Rep X.K O' H' v d → De.rt v H'
  | .bk ρ => ∀ O' W' σ' H', SI X.K b O' W' σ' H' ρ → Tr O W H O' W' H' → De.bk σ' H'
  | .ct ρ => ∀ O' W' σ' H', SI X.K b O' W' σ' H' ρ → Tr O W H O' W' H' → De.ct σ' H'
  | .ex c x => ∀ cls d H', Ext b.W b.H H' → ExcR X.K X.mg b.O H' c x cls d → E cls d H'
  | .ro ds ρ => ∀ q vs O' W' σ' H', SI X.K b O' W' σ' H' ρ → b.H q = none → H' q = some (.lst vs) → Reps X.K (fun a => O' a ∨ a = q) H' vs ds → De.rt (.ref q) H'
  | .bad => False
structure SS (X : Cx) (E : XK) (st : Stmt) (g : List B → Fl) : Prop where
  ex : ∃ t, PS X st t ∧ ∀ (b : Bs) (O W : Addr → Prop) (De : Ends) (σ : St) (H : Hp) (ρ : List B), SI X.K b O W σ H ρ → FlOk X E b O W H De (g ρ) → t De σ H
structure SSs (X : Cx) (E : XK) (st : List Stmt) (g : List B → Fl) : Prop where
  ex : ∃ t, PSs X st t ∧ ∀ (b : Bs) (O W : Addr → Prop) (De : Ends) (σ : St) (H : Hp) (ρ : List B), SI X.K b O W σ H ρ → FlOk X E b O W H De (g ρ) → t De σ H
section
variable {K : PySem.W.Frag} {b : Bs} {O W : Addr → Prop} {σ : St} {H H' : Hp} {ρ ρ' : List B} {p : Bool}
theorem SI.post (s : SI K b O W σ H ρ) (po : Post p K O W σ H H' ρ ρ') : SI K b O W σ H' ρ' where
  st := po.st
  ext := fun a o w h => po.ext a o (fun z => (s.own a z).elim w fun e => by rw [h] at e; cases e) (s.ext a o w h)
  bal := s.bal
  up := s.up
  bsub := s.bsub
  own := s.own
  loc := fun i q e1 e2 => s.loc i q (by rw [← po.kd i]; exact e1) e2
  bor := fun i e1 => s.bor i (by rw [← po.kd i]; exact e1)
theorem SI.tr (s : SI K b O W σ H ρ) (po : Post p K O W σ H H' ρ ρ') : Tr O W H O W H' := ⟨po.ext, fun _ z => .inl z, fun _ z => .inl z⟩
theorem SI.ex {X : Cx} {E : XK} {c : Str} {x : D} (s : SI X.K b O W σ H ρ) (h : ∀ cls d H', Ext b.W b.H H' → ExcR X.K X.mg b.O H' c x cls d → E cls d H') : EX X E O W H c x := fun cls d H' e r => by
  refine h cls d H' (fun a o w q => e a o (fun z => (s.own a z).elim w fun e => by rw [q] at e; cases e) (s.ext a o w q)) ?_
  obtain ⟨C, dd, v, h1, h2, h3, h4, h5⟩ := r
  exact ⟨C, dd, v, h1, h2, h3, h4, h5.less s.up⟩
end
theorem kind_set {ρ : List B} {i j : Nat} {x : B} : kindB (ρ.set i x)[j]? = if i = j ∧ i < ρ.length then kindB (some x) else kindB ρ[j]? := by
  rw [List.getElem?_set]
  by_cases h : i = j
  · by_cases h2 : i < ρ.length
    · rw [if_pos h, if_pos h2, if_pos ⟨h, h2⟩]
    · rw [if_pos h, if_neg h2, if_neg (fun z => h2 z.2)]
      have : ρ[j]? = none := List.getElem?_eq_none (by omega)
      rw [this]
  · rw [if_neg h, if_neg (fun z => h z.1)]
section
variable {K : PySem.W.Frag} {b : Bs} {O W : Addr → Prop} {σ : St} {H H' : Hp} {ρ ρ' : List B} {i : Nat}
theorem set_some {ρ : List B} {i j : Nat} {x y : B} (h : (ρ.set i x)[j]? = some y) : (i = j ∧ x = y) ∨ (i ≠ j ∧ ρ[j]? = some y) := by
  rw [List.getElem?_set] at h
  split at h
  · split at h
    · exact .inl ⟨by assumption, Option.some.inj h⟩
    · cases h
  · exact .inr ⟨by assumption, h⟩
theorem StR.put {v : V} {d : D} (s : StR K O W σ H ρ) (r : Rep K O H v d) : StR K O W (σ.set i (some v)) H (ρ.set i (.va d)) where
  len := by rw [List.length_set, List.length_set]; exact s.len
  slot := fun j c e => by
    rcases set_some e with ⟨e1, e2⟩ | ⟨e1, e2⟩
    · subst e1; subst e2
      have hj : i < σ.length := by
        have := (List.getElem?_eq_some_iff.mp e).1
        rw [List.length_set] at this
        rw [s.len]; exact this
      exact ⟨v, by rw [List.getElem?_set_self hj], r⟩
    · have q := s.slot j c e2
      rw [List.getElem?_set_ne e1]
      exact q
  apart := fun j k p h1 h2 h3 h4 => by
    have hs : ∀ l, isOw (ρ.set i (.va d))[l]? = true → isOw ρ[l]? = true ∧ i ≠ l := fun l h => by
      unfold isOw at h
      rw [kind_set] at h
      split at h
      · cases h
      · rename_i hh
        by_cases e : i = l
        · subst e
          have : ρ[i]? = none := List.getElem?_eq_none (by omega)
          rw [this] at h; cases h
        · exact ⟨h, e⟩
    obtain ⟨a1, n1⟩ := hs j h1
    obtain ⟨a2, n2⟩ := hs k h2
    rw [List.getElem?_set_ne n1] at h3
    rw [List.getElem?_set_ne n2] at h4
    exact s.apart j k p a1 a2 h3 h4
  sub := s.sub
  al := s.al
theorem SI.put {v : V} {d : D} (s : SI K b O W σ H ρ) (r : Rep K O H v d) : SI K b O W (σ.set i (some v)) H (ρ.set i (.va d)) where
  st := s.st.put r
  ext := s.ext
  bal := s.bal
  up := s.up
  bsub := s.bsub
  own := s.own
  loc := fun j p h1 h2 => by
    rw [kind_set] at h1
    split at h1
    · cases h1
    · rename_i hh
      by_cases e : i = j
      · subst e
        have : ρ[i]? = none := List.getElem?_eq_none (by omega)
        rw [this] at h1; cases h1
      · rw [List.getElem?_set_ne e] at h2
        exact s.loc j p h1 h2
  bor := fun j h1 => by
    rw [kind_set] at h1
    split at h1
    · cases h1
    · rename_i hh
      by_cases e : i = j
      · subst e
        have : ρ[i]? = none := List.getElem?_eq_none (by omega)
        rw [this] at h1; cases h1
      · rw [List.getElem?_set_ne e]
        exact s.bor j h1
end
theorem FlOk.on {X : Cx} {E : XK} {b : Bs} {O W O' W' : Addr → Prop} {H H' : Hp} {De : Ends} {f : Fl} (h : FlOk X E b O W H De f) (s : ∀ a, W a → O a) (t : Tr O W H O' W' H') : FlOk X E b O' W' H' De f := by
  cases f with
  | nx ρ => exact fun O2 W2 σ2 H2 si t2 => h O2 W2 σ2 H2 si (t.trans s t2)
  | rt d ρ => exact h
  | bk ρ => exact fun O2 W2 σ2 H2 si t2 => h O2 W2 σ2 H2 si (t.trans s t2)
  | ct ρ => exact fun O2 W2 σ2 H2 si t2 => h O2 W2 σ2 H2 si (t.trans s t2)
  | ex c x => exact h
  | ro ds ρ => exact h
  | bad => exact h
def fzB (i : Nat) (ρ : List B) : List B := match ρ[i]? with
  | some (.ow false ds) => ρ.set i (.va (.lst ds))
  | _ => ρ
def sFz (i : Nat) (g : List B → Fl) : List B → Fl := fun ρ => g (fzB i ρ)
section
variable {K : PySem.W.Frag} {b : Bs} {O W : Addr → Prop} {σ : St} {H H' : Hp} {ρ ρ' : List B} {i : Nat}
theorem SI.fz (s : SI K b O W σ H ρ) : ∃ O' W', SI K b O' W' σ H (fzB i ρ) ∧ Tr O W H O' W' H := by
  unfold fzB
  cases e : ρ[i]? with
  | none => exact ⟨O, W, s, Tr.refl⟩
  | some c =>
    cases c with
    | un => exact ⟨O, W, s, Tr.refl⟩
    | va d => exact ⟨O, W, s, Tr.refl⟩
    | ow k ds =>
      cases k with
      | true => exact ⟨O, W, s, Tr.refl⟩
      | false =>
        obtain ⟨p, vs, h1, h2, h3, h4⟩ := s.st.slot i _ e
        have hi : i < ρ.length := (List.getElem?_eq_some_iff.mp e).1
        have bp : b.H p = none := s.loc i p (by rw [e]; rfl) h1
        have nb : ¬ b.O p := fun z => s.bal p z bp
        have hs : ∀ l, isOw (ρ.set i (.va (.lst ds)))[l]? = true → isOw ρ[l]? = true ∧ i ≠ l := fun l h => by
          unfold isOw at h
          rw [kind_set] at h
          split at h
          · cases h
          · rename_i hh
            by_cases e : i = l
            · exact absurd ⟨e, hi⟩ hh
            · exact ⟨h, e⟩
        refine ⟨fun a => O a ∧ a ≠ p, fun a => W a ∧ a ≠ p, ⟨⟨?_, fun j c ec => ?_, fun j k q g1 g2 g3 g4 => ?_, fun a z => ⟨s.st.sub a z.1, z.2⟩, fun a z => s.st.al a z.1⟩, s.ext, s.bal, fun a z => ⟨s.up a z, fun e => nb (e ▸ z)⟩, s.bsub, fun a z => s.own a z.1, fun j q g1 g2 => ?_, fun j g1 => ?_⟩, Ext.refl _ _, fun a z => .inl z.1, fun a z => .inl z.1⟩
        · rw [List.length_set]; exact s.st.len
        · rcases set_some ec with ⟨e1, e2⟩ | ⟨e1, e2⟩
          · subst e1; subst e2
            exact ⟨.ref p, h1, .lst (.inl ⟨.inl h3, fun z => z.2 rfl⟩) (h4.less fun a z => z.1)⟩
          · have q := s.st.slot j c e2
            cases c with
            | un => exact trivial
            | va d =>
              obtain ⟨v, g1, g2⟩ := q
              exact ⟨v, g1, g2.less fun a z => z.1⟩
            | ow k ds' =>
              obtain ⟨p', vs', g1, g2, g3, g4⟩ := q
              refine ⟨p', vs', g1, ⟨g2, fun z => ?_⟩, g3, g4.less fun a z => z.1⟩
              subst z
              exact e1 (s.st.apart i j p' (by rw [e]; rfl) (by rw [e2]; rfl) h1 g1)
        · exact s.st.apart j k q (hs j g1).1 (hs k g2).1 g3 g4
        · rw [kind_set] at g1
          split at g1
          · cases g1
          · exact s.loc j q g1 g2
        · rw [kind_set] at g1
          split at g1
          · cases g1
          · exact s.bor j g1
end
section
variable {X : Cx} {E : XK} {p q w : Bool} {st : Stmt} {rest : List Stmt} {g g2 : List B → Fl} {e a c : Expr} {fe : ES} {be : BS} {ar : AS} {pos pos' : Pos}
theorem ss_fz (i : Nat) (h : SS X E st g) : SS X E st (sFz i g) := by
  obtain ⟨t, pt, rt⟩ := h.ex
  refine ⟨t, pt, fun b O W De σ H ρ s h => ?_⟩
  obtain ⟨O', W', s', t'⟩ := s.fz (i := i)
  exact rt b O' W' De σ H _ s' (FlOk.on h s.st.sub t')
theorem sss_fz (i : Nat) {sts : List Stmt} (h : SSs X E sts g) : SSs X E sts (sFz i g) := by
  obtain ⟨t, pt, rt⟩ := h.ex
  refine ⟨t, pt, fun b O W De σ H ρ s h => ?_⟩
  obtain ⟨O', W', s', t'⟩ := s.fz (i := i)
  exact rt b O' W' De σ H _ s' (FlOk.on h s.st.sub t')
def sNx : List B → Fl := fun ρ => .nx ρ
def sSeq (g1 g2 : List B → Fl) : List B → Fl := fun ρ => match g1 ρ with
  | .nx ρ1 => g2 ρ1
  | f => f
def sRs {α : Type} (r : Rs α) (k : α → Fl) : Fl := match r with
  | .ok a => k a
  | .exc c x => .ex c x
  | .bad => .bad
def sDo (f : ES) : List B → Fl := fun ρ => sRs (f ρ) fun x => .nx x.2
def sRet (f : ES) : List B → Fl := fun ρ => sRs (f ρ) fun x => .rt x.1 x.2
def sIf (c : BS) (a b : List B → Fl) : List B → Fl := fun ρ => sRs (c ρ) fun x => match x.1 with
  | true => a x.2
  | false => b x.2
def sSet (i : Nat) (f : ES) : List B → Fl := fun ρ => sRs (f ρ) fun x => .nx (x.2.set i (.va x.1))
def sSetO (i : Nat) (f : AS) : List B → Fl := fun ρ => sRs (f ρ) fun x => .nx (x.2.set i (.ow false x.1))
theorem FlOk.rs {α : Type} {b : Bs} {O W : Addr → Prop} {σ : St} {H : Hp} {ρ : List B} {De : Ends} {r : Rs α} {k : α → Fl} (s : SI X.K b O W σ H ρ) (h : FlOk X E b O W H De (sRs r k)) : Wr r (fun a => FlOk X E b O W H De (k a)) (EX X E O W H) := by
  cases r with
  | ok a => exact h
  | exc c x => exact s.ex h
  | bad => exact h
theorem sss_nil : SSs X E [] sNx := ⟨_, pss_nil, fun b O W De σ H ρ s h => h O W σ H s Tr.refl⟩
theorem seq_ok {b : Bs} {O W : Addr → Prop} {H : Hp} {De : Ends} {t2 : TS} {f : Fl} (h : FlOk X E b O W H De (match f with | .nx ρ1 => g2 ρ1 | f => f)) (hs : ∀ a, W a → O a)
    (r2 : ∀ (b : Bs) (O W : Addr → Prop) (De : Ends) (σ : St) (H : Hp) (ρ : List B), SI X.K b O W σ H ρ → FlOk X E b O W H De (g2 ρ) → t2 De σ H) : FlOk X E b O W H { De with nx := t2 De } f := by
  cases f with
  | nx ρ1 => exact fun O' W' σ' H' s' t' => r2 b O' W' De σ' H' ρ1 s' (FlOk.on h hs t')
  | rt d ρ => exact h
  | bk ρ => exact h
  | ct ρ => exact h
  | ex c x => exact h
  | ro ds ρ => exact h
  | bad => exact h
theorem sss_cons (h1 : SS X E st g) (h2 : SSs X E rest g2) : SSs X E (st :: rest) (sSeq g g2) := by
  obtain ⟨t1, p1, r1⟩ := h1.ex
  obtain ⟨t2, p2, r2⟩ := h2.ex
  exact ⟨_, pss_cons p1 p2, fun b O W De σ H ρ s h => r1 b O W _ σ H ρ s (seq_ok h s.st.sub r2)⟩
theorem sss_one (h1 : SS X E st g) : SSs X E [st] g := by
  obtain ⟨t1, p1, r1⟩ := h1.ex
  exact ⟨_, pss_one p1, r1⟩
theorem ss_pass : SS X E (.Pass pos) sNx := ⟨_, ps_pass, fun b O W De σ H ρ s h => h O W σ H s Tr.refl⟩
theorem ss_brk : SS X E (.Break pos) (fun ρ => .bk ρ) := ⟨_, ps_break, fun b O W De σ H ρ s h => h O W σ H s Tr.refl⟩
theorem ss_cont : SS X E (.Continue pos) (fun ρ => .ct ρ) := ⟨_, ps_continue, fun b O W De σ H ρ s h => h O W σ H s Tr.refl⟩
theorem ss_never : SS X E st (fun _ => .bad) := ⟨_, ps_never, fun b O W De σ H ρ s h => h⟩
theorem ss_ret (h : EV X E p false e fe) : SS X E (.Return (some e) pos) (sRet fe) := by
  obtain ⟨t, pt, rt⟩ := h.ex
  refine ⟨_, ps_ret pt, fun b O W De σ H ρ s h => ?_⟩
  exact rt O W σ H ρ _ s.st ((FlOk.rs s h).mono (fun x hx v H' po r => hx v O W σ H' (s.post po) r.strict) fun _ _ z => z)
def sRetO (f : AS) : List B → Fl := fun ρ => sRs (f ρ) fun x => .ro x.1 x.2
theorem ss_retO (h : EO X E p e ar) : SS X E (.Return (some e) pos) (sRetO ar) := by
  obtain ⟨t, pt, rt⟩ := h.ex
  refine ⟨_, ps_ret pt, fun b O W De σ H ρ s h => ?_⟩
  refine rt O W σ H ρ _ s.st ((FlOk.rs s h).mono (fun x hx q vs H' n po st hq r => ?_) fun _ _ z => z)
  have bn : b.H q = none := by
    cases e : b.H q with
    | none => rfl
    | some o =>
      by_cases w : b.W q
      · exact absurd n (s.st.al _ (s.up _ (s.bsub _ w)))
      · have := s.ext q o w e
        rw [n] at this; cases this
  exact hx q vs O W σ H' (s.post po) bn hq r
theorem ss_retN : SS X E (.Return none pos) (fun ρ => .rt .non ρ) := ⟨_, ps_retN, fun b O W De σ H ρ s h => h .non O W σ H s .non⟩
theorem ss_do (h : EV X E p w e fe) (hs : swapsWith e none pos.line X.env = pure false := by rfl) : SS X E (.Expr e pos) (sDo fe) := by
  obtain ⟨t, pt, rt⟩ := h.ex
  refine ⟨_, ps_expr pt hs, fun b O W De σ H ρ s h => ?_⟩
  exact rt O W σ H ρ _ s.st ((FlOk.rs s h).mono (fun x hx v H' po r => hx O W σ H' (s.post po) (s.tr po)) fun _ _ z => z)
theorem ss_if {as bs : List Stmt} (hc : TV X E p c be) (ha : SSs X E as g) (hb : SSs X E bs g2) : SS X E (.If c as bs pos) (sIf be g g2) := by
  obtain ⟨tc, pc, rc⟩ := hc.ex
  obtain ⟨ta, pa, ra⟩ := ha.ex
  obtain ⟨tb, pb, rb⟩ := hb.ex
  refine ⟨_, ps_if pc pa pb, fun b O W De σ H ρ s h => ?_⟩
  refine rc O W σ H ρ _ s.st ((FlOk.rs s h).mono (fun x hx H1 po => ?_) fun _ _ z => z)
  obtain ⟨k, ρ1⟩ := x
  cases k with
  | true => exact iteT (ra b O W De σ H1 ρ1 (s.post po) (FlOk.on hx s.st.sub (s.tr po)))
  | false => exact iteF (rb b O W De σ H1 ρ1 (s.post po) (FlOk.on hx s.st.sub (s.tr po)))
theorem ss_set (i : Nat) {x : Str} (h : EV X E p false e fe) (hN : X.N.Nodup) (hi : X.N[i]? = some x := by rfl) (hx : Loc X.env.scope x := by first | exact Or.inl rfl | exact Or.inr rfl) (hs : swapsWith e (some (.Name x pos')) pos.line X.env = pure false := by rfl)
    (hf : X.fn x = true ∨ X.env.scope.names.lookup x = some .local := by first | exact .inl rfl | exact .inr rfl) : SS X E (.Assign [.Name x pos'] e pos) (sSet i fe) := by
  obtain ⟨t, pt, rt⟩ := h.ex
  refine ⟨_, ps_set hN hi hx pt hs hf, fun b O W De σ H ρ s h => ?_⟩
  exact rt O W σ H ρ _ s.st ((FlOk.rs s h).mono (fun x hx v H' po r => hx O W _ H' ((s.post po).put r.strict) (s.tr po)) fun _ _ z => z)
theorem SI.putO {K : PySem.W.Frag} {b : Bs} {O W : Addr → Prop} {σ : St} {H H' : Hp} {ρ ρ' : List B} {i : Nat} {q' : Addr} {vs : List V} {ds : List D} (s : SI K b O W σ H ρ) (n : H q' = none) (po : Post p K O W σ H H' ρ ρ')
    (st : StR K (fun a => O a ∨ a = q') (fun a => W a ∨ a = q') σ H' ρ') (hq : H' q' = some (.lst vs)) (r : Reps K (fun a => O a ∨ a = q') H' vs ds) :
    SI K b (fun a => O a ∨ a = q') (fun a => W a ∨ a = q') (σ.set i (some (.ref q'))) H' (ρ'.set i (.ow false ds)) ∧ Tr O W H (fun a => O a ∨ a = q') (fun a => W a ∨ a = q') H' := by
  have sp := s.post po
  have bn : b.H q' = none ∨ b.W q' := by
    cases e : b.H q' with
    | none => exact .inl rfl
    | some o =>
      by_cases w : b.W q'
      · exact .inr w
      · have := s.ext q' o w e
        rw [n] at this; cases this
  have hlt : ∀ {j : Nat} {c : B}, (ρ'.set i (.ow false ds))[j]? = some c → j < σ.length := fun {j c} e => by
    have := (List.getElem?_eq_some_iff.mp e).1
    rw [List.length_set] at this
    rw [st.len]; exact this
  have oth : ∀ {j : Nat}, i ≠ j → isOw ρ'[j]? = true → σ[j]? ≠ some (some (.ref q')) := fun {j} hj ho z => by
    have k1 : kindB ρ'[j]? = kindB ρ[j]? := po.kd j
    cases ej : ρ[j]? with
    | none => rw [isOw, k1, ej] at ho; cases ho
    | some c =>
      cases c with
      | un => rw [isOw, k1, ej] at ho; cases ho
      | va d => rw [isOw, k1, ej] at ho; cases ho
      | ow k es =>
        obtain ⟨p', vs', h1, h2, h3, h4⟩ := s.st.slot j _ ej
        rw [z] at h1
        cases h1
        rw [n] at h3; cases h3
  have ow' : ∀ {j : Nat}, isOw (ρ'.set i (.ow false ds))[j]? = true → (i = j ∧ i < ρ'.length) ∨ (i ≠ j ∧ isOw ρ'[j]? = true) := fun {j} h => by
    unfold isOw at h
    rw [kind_set] at h
    split at h
    · exact .inl (by assumption)
    · rename_i hh
      by_cases e : i = j
      · subst e
        have : ρ'[i]? = none := List.getElem?_eq_none (by omega)
        rw [this] at h; cases h
      · exact .inr ⟨e, h⟩
  refine ⟨⟨⟨?_, fun j c e => ?_, fun j k a h1 h2 h3 h4 => ?_, st.sub, st.al⟩, sp.ext, s.bal, fun a z => .inl (s.up a z), s.bsub, fun a z => ?_, fun j a h1 h2 => ?_, fun j h1 => ?_⟩, po.ext, fun a z => z.elim .inl fun e => .inr (by rw [e]; exact n), fun a z => z.elim .inl fun e => .inr (by rw [e]; exact n)⟩
  · rw [List.length_set, List.length_set]; exact st.len
  · have hj := hlt e
    rcases set_some e with ⟨e1, e2⟩ | ⟨e1, e2⟩
    · subst e1; subst e2
      exact ⟨q', vs, by rw [List.getElem?_set_self hj], .inr rfl, hq, r⟩
    · have h := st.slot j c e2
      rw [List.getElem?_set_ne e1]
      exact h
  · rcases ow' h1 with ⟨a1, l1⟩ | ⟨a1, o1⟩ <;> rcases ow' h2 with ⟨a2, l2⟩ | ⟨a2, o2⟩
    · rw [← a1, ← a2]
    · subst a1
      have hl : i < σ.length := by rw [st.len]; exact l1
      rw [List.getElem?_set_self hl] at h3
      rw [List.getElem?_set_ne a2] at h4
      cases h3
      exact absurd h4 (oth a2 o2)
    · subst a2
      have hl : i < σ.length := by rw [st.len]; exact l2
      rw [List.getElem?_set_self hl] at h4
      rw [List.getElem?_set_ne a1] at h3
      cases h4
      exact absurd h3 (oth a1 o1)
    · rw [List.getElem?_set_ne a1] at h3
      rw [List.getElem?_set_ne a2] at h4
      exact st.apart j k a o1 o2 h3 h4
  · rcases z with z | z
    · exact s.own a z
    · rw [z]; exact bn.symm
  · rw [kind_set] at h1
    split at h1
    · rename_i hh
      obtain ⟨e1, l1⟩ := hh
      subst e1
      rw [List.getElem?_set_self (by rw [st.len]; exact l1)] at h2
      cases h2
      rcases bn with z | z
      · exact z
      · exact absurd n (s.st.al _ (s.up _ (s.bsub _ z)))
    · rename_i hh
      by_cases e : i = j
      · subst e
        have : ρ'[i]? = none := List.getElem?_eq_none (by omega)
        rw [this] at h1; cases h1
      · rw [List.getElem?_set_ne e] at h2
        exact sp.loc j a h1 h2
  · rw [kind_set] at h1
    split at h1
    · cases h1
    · rename_i hh
      by_cases e : i = j
      · subst e
        have : ρ'[i]? = none := List.getElem?_eq_none (by omega)
        rw [this] at h1; cases h1
      · rw [List.getElem?_set_ne e]
        exact sp.bor j h1
end
end RT
namespace RT
open PySem PySem.Spec PyProof.Rows L2
def SqB (K : PySem.W.Frag) (H : Hp) : Bool → Addr → List V → Prop
  | true, a, xs => SqL K H a xs
  | false, a, xs => SqT K H a xs
def ItB (h : Heap) : Bool → Addr → Addr → Nat → Prop
  | true, it, a, i => h.IsListIter it a i
  | false, it, a, i => h.IsTupleIter it a i
def ArB (h : Heap) : Bool → Addr → Array Value → Prop
  | true, a, xs => h.IsList a xs
  | false, a, xs => h.IsTuple a xs
def itO (b : Bool) (a : Addr) : Obj := match b with
  | true => { cls := .type "list_iterator", data := .fields #[.ref a, .int 0 0] }
  | false => { cls := .type "tuple_iterator", data := .fields #[.ref a, .int 0 0] }
section
variable {X : Cx} {pins : List (Addr × Obj)} {σ : St} {H : Hp} {s : Shared} {b : Bool} {a it : Addr} {xs ys : List V} {i : Nat} {h h' : Heap}
theorem arB_of (I : Inv X pins σ H s) (q : SqB X.K H b a xs) : ∃ its : List Value, Vals xs its ∧ ArB s.heap b a its.toArray ∧ a < s.heap.objs.size := by
  cases b with
  | true =>
    obtain ⟨its, rv, p, _⟩ := I.list q
    exact ⟨its, rv, p.isList, p.lt⟩
  | false =>
    obtain ⟨its, rv, p, _⟩ := I.tuple q
    exact ⟨its, rv, (show s.heap.IsTuple a its.toArray from p), p.lt⟩
theorem sqB_inj (I : Inv X pins σ H s) (q : SqB X.K H b a xs) (q' : SqB X.K H b a ys) : xs = ys := by
  cases b with
  | true => exact I.list_inj q q'
  | false => exact I.tuple_inj q q'
theorem itB_lt (q : ItB h b it a i) : it < h.objs.size := by
  cases b with
  | true => obtain ⟨_, e, _⟩ := q; exact Heap.lt_size e
  | false => obtain ⟨_, e, _⟩ := q; exact Heap.lt_size e
theorem itB_obj (q : ItB h b it a i) : ∃ o, h.get? it = some o ∧ ∀ v, o.data ≠ .cell v := by
  cases b with
  | true => obtain ⟨o, e, _, d⟩ := q; exact ⟨o, e, fun v z => by rw [d] at z; cases z⟩
  | false => obtain ⟨o, e, _, d⟩ := q; exact ⟨o, e, fun v z => by rw [d] at z; cases z⟩
theorem itB_at (q : ItB h b it a i) (k : ∀ o, h.get? it = some o → h'.get? it = some o) : ItB h' b it a i := by
  cases b with
  | true => exact Heap.IsListIter.at q k
  | false => exact Heap.IsTupleIter.at q k
theorem drawsB {prog : Program} {w : World} {A : Around} (hh : A.handled = none) (b : Bool) (it a : Addr) (hne : a ≠ it) (items : Array Value) :
    Draws prog w A it [it, a] items.size (fun i v => items[i]? = some v) (fun i h => ItB h b it a i ∧ ArB h b a items) := by
  cases b with
  | true => exact Draws.list hh it a hne items
  | false => exact Draws.tuple hh it a hne items
theorem beginsB (b : Bool) (a : Addr) (items : Array Value) : Begins (.ref a) (itO b a) fun h => ArB h b a items := by
  cases b with
  | true => exact begins_list a items
  | false => exact begins_tuple a items
theorem itB_new (e : h.get? it = some (itO b a)) : ItB h b it a 0 := by
  cases b with
  | true => exact ⟨_, e, rfl, rfl⟩
  | false => exact ⟨_, e, rfl, rfl⟩
end
def Iz2 (K : PySem.W.Frag) (b1 b2 : Bool) (a c : Addr) : It :=
  ⟨fun i H => ∃ (xs ys : List V) (x y : V), SqB K H b1 a xs ∧ SqB K H b2 c ys ∧ xs[i]? = some x ∧ ys[i]? = some y,
    fun i H v H' => ∃ T x y, v = .ref T ∧ H T = none ∧ H' = upd H T (.tup [x, y]) ∧ (∀ xs, SqB K H b1 a xs → xs[i]? = some x) ∧ ∀ ys, SqB K H b2 c ys → ys[i]? = some y,
    fun i H => ∃ xs ys : List V, SqB K H b1 a xs ∧ SqB K H b2 c ys ∧ i ≤ xs.length ∧ i ≤ ys.length ∧ (i = xs.length ∨ i = ys.length)⟩
theorem sep_of {z TI TO i1 i2 a c : Addr} (D : ZipApart z TI TO i1 i2 a c) (h1 : a ≠ i2) (h2 : c ≠ i1) : ZipSep2 z TI TO i1 i2 [i1, a] [i2, c] := by
  constructor
  · exact D.TIz
  · exact D.TOz
  · exact D.TITO
  · exact D.TIi1
  · simp
  · simp only [List.mem_cons, List.not_mem_nil, or_false, not_or]; exact ⟨D.i1z.symm, D.l1z.symm⟩
  · simp only [List.mem_cons, List.not_mem_nil, or_false, not_or]; exact ⟨D.TOi1, D.l1TO.symm⟩
  · exact D.TIi2
  · simp
  · simp only [List.mem_cons, List.not_mem_nil, or_false, not_or]; exact ⟨D.i2z.symm, D.l2z.symm⟩
  · simp only [List.mem_cons, List.not_mem_nil, or_false, not_or]; exact ⟨D.TOi2, D.l2TO.symm⟩
  · simp only [List.mem_cons, List.not_mem_nil, or_false, not_or]; exact ⟨D.i12, h2.symm⟩
  · simp only [List.mem_cons, List.not_mem_nil, or_false, not_or]; exact ⟨D.i12.symm, h1.symm⟩
theorem turn_z2 {P : Program} {w : World} {K : PySem.W.Frag} {elts : List Expr} {kk : Nat} {tpos : Pos} {b1 b2 : Bool} {a c z TI TO i1 i2 : Addr} (D : ZipApart z TI TO i1 i2 a c) :
    Turn P w K (.Tuple elts kk tpos) (Iz2 K b1 b2 a c) [z, TI, TO, i1, i2] z (fun i h => IsZip h z TI TO .none ∧ IsTupOf2 h TI (.ref i1) (.ref i2) ∧ (∃ x y, IsTupOf2 h TO x y) ∧ ItB h b1 i1 a i ∧ ItB h b2 i2 c i) where
  mem := by simp
  obj := fun i h st c hc => by
    obtain ⟨hz, hTI, ⟨x, y, hTO⟩, h1, h2⟩ := st
    have e' : c = z ∨ c = TI ∨ c = TO ∨ c = i1 ∨ c = i2 := by simpa using hc
    rcases e' with q | q | q | q | q
    · rw [q]; exact ⟨_, hz, fun v q => nomatch q⟩
    · rw [q]; exact ⟨_, hTI, fun v q => nomatch q⟩
    · rw [q]; exact ⟨_, hTO, fun v q => nomatch q⟩
    · rw [q]; exact itB_obj h1
    · rw [q]; exact itB_obj h2
  keep := fun i h h' st k => by
    obtain ⟨hz, hTI, ⟨x, y, hTO⟩, h1, h2⟩ := st
    exact ⟨k z (by simp) _ hz, k TI (by simp) _ hTI, ⟨x, y, k TO (by simp) _ hTO⟩, itB_at h1 fun o q => k i1 (by simp) o q, itB_at h2 fun o q => k i2 (by simp) o q⟩
  item := by
    intro X hP hw hK hc i pins s σ H E I hf st hg
    subst hP hw hK
    obtain ⟨hz, hTI, ⟨x0, y0, hTO⟩, h1, h2⟩ := st
    obtain ⟨xs, ys, x, y, hqx, hqy, hx, hy⟩ := hg
    obtain ⟨its, rv, p, _⟩ := arB_of I hqx
    obtain ⟨its2, rv2, p2, _⟩ := arB_of I hqy
    obtain ⟨u, hu, ru⟩ := rv.get hx
    obtain ⟨u2, hu2, ru2⟩ := rv2.get hy
    have hzl : z < s.heap.objs.size := Heap.lt_size hz
    have hh := I.ok.hd hc
    refine wpAny_pyNext_zipD2_item (sep_of D D.l1i2 D.l2i1) (drawsB (prog := X.prog) (w := X.w) (A := X.A.in1) hh b1 i1 a D.l1i1 its.toArray) (drawsB (prog := X.prog) (w := X.w) (A := X.A.in1) hh b2 i2 c D.l2i2 its2.toArray) hz hTI hTO ⟨h1, p⟩ ⟨h2, p2⟩ ?_ ?_ fun x1 x2 h' tk e1 e2 z' TO' st1' st2' hT hsz hk => ?_
    · have := (List.getElem?_eq_some_iff.mp hu).1; simpa using this
    · have := (List.getElem?_eq_some_iff.mp hu2).1; simpa using this
    have q1 : x1 = u := by have e1 : its.toArray[i]? = some x1 := e1; simp only [List.getElem?_toArray] at e1; rw [hu] at e1; exact (Option.some.inj e1).symm
    have q2 : x2 = u2 := by have e2 : its2.toArray[i]? = some x2 := e2; simp only [List.getElem?_toArray] at e2; rw [hu2] at e2; exact (Option.some.inj e2).symm
    subst q1 q2
    refine ⟨_, rfl, wpAny_letOwnedTupleGo_zip (s := { s with heap := h', toks := tk }) z' fun h'' z'' sb => ?_⟩
    have hT2 : h''.get? s.heap.objs.size = some { cls := .type "tuple", data := .seq #[x1, x2] } := (sb.2 _ (Nat.ne_of_gt hzl)).trans hT
    have new : ObjOk X.prog X.w (upd H s.heap.objs.size (.tup [x, y])) h'' s.heap.objs.size (.tup [x, y]) :=
      ⟨by show 2 ≤ sizeLine; decide, [x1, x2], .cons ru (.cons ru2 .nil), ⟨_, hT2, rfl, _, rfl⟩⟩
    have I1 : Inv X pins σ (upd H s.heap.objs.size (.tup [x, y])) { s with heap := h'', toks := tk } :=
      I.turnedNew (t' := tk) (ch := [z, TI, TO, i1, i2]) (fun c o hb q => (sb.2 c (fun q' => hb (by simp [q']))).trans (hk c o (fun q' => hb (by simp [q'])) (fun q' => hb (by simp [q'])) (fun q' => hb (by simp [q'])) (fun q' => hb (by simp [q'])) q)) hf (Nat.le_refl _) new
    refine ⟨.ref s.heap.objs.size, _, I1, rfl, ⟨_, x, y, rfl, I.hok.fresh (Nat.le_refl _), rfl, fun l hl => by rw [sqB_inj I hl hqx]; exact hx, fun l hl => by rw [sqB_inj I hl hqy]; exact hy⟩, ⟨z'', ?_, ⟨x1, x2, ?_⟩, ?_, ?_⟩, fun c hcm => ?_⟩
    · exact (sb.2 _ D.TIz).trans (hk _ _ D.TIz D.TITO D.TIi1 D.TIi2 hTI)
    · exact (sb.2 _ D.TOz).trans TO'
    · exact itB_at st1'.1 fun o q => (sb.2 _ D.i1z).trans q
    · exact itB_at st2'.1 fun o q => (sb.2 _ D.i2z).trans q
    · have hlt : c < s.heap.objs.size := by
        have e' : c = z ∨ c = TI ∨ c = TO ∨ c = i1 ∨ c = i2 := by simpa using hcm
        rcases e' with q | q | q | q | q
        · rw [q]; exact hzl
        · rw [q]; exact Heap.lt_size hTI
        · rw [q]; exact Heap.lt_size hTO
        · rw [q]; exact itB_lt h1
        · rw [q]; exact itB_lt h2
      rw [upd_ne (Nat.ne_of_lt hlt)]
      exact (hf c hcm).1
  done := by
    intro X hP hw hK hc i pins s σ H E I hf st hg
    subst hP hw hK
    obtain ⟨hz, hTI, ⟨x0, y0, hTO⟩, h1, h2⟩ := st
    obtain ⟨xs, ys, hqx, hqy, hl1, hl2, hend⟩ := hg
    obtain ⟨its, rv, p, _⟩ := arB_of I hqx
    obtain ⟨its2, rv2, p2, _⟩ := arB_of I hqy
    have l1 := rv.length
    have l2 := rv2.length
    have hh := I.ok.hd hc
    exact wpAny_pyNext_zipD2_end (i := i) (sep_of D D.l1i2 D.l2i1) (drawsB (prog := X.prog) (w := X.w) (A := X.A.in1) hh b1 i1 a D.l1i1 its.toArray) (drawsB (prog := X.prog) (w := X.w) (A := X.A.in1) hh b2 i2 c D.l2i2 its2.toArray) hz hTI hTO ⟨h1, p⟩ ⟨h2, p2⟩ (by simp; omega) (by simp; omega) (by simp; omega) fun h' tk hk => ⟨rfl, I.turnedL (t' := tk) (ch := [z, TI, TO, i1, i2]) (fun c o hb q =>
      hk c o (fun q' => hb (by simp [q'])) (fun q' => hb (by simp [q'])) (fun q' => hb (by simp [q'])) (fun q' => hb (by simp [q'])) q) hf⟩
  self := fun A i s Q E st h => wpAny_pyIter_zip st.1 h
def iZ2 (K : PySem.W.Frag) (ta : TA) : TI := fun σ H R => ta σ H fun vs H1 => ∃ b1 b2 a c xs ys, vs = [.ref a, .ref c] ∧ SqB K H1 b1 a xs ∧ SqB K H1 b2 c ys ∧ R (Iz2 K b1 b2 a c) H1
theorem pi_z2 {X : Cx} {e e2 : Expr} {ta : TA} {p pos tpos : Pos} {elts : List Expr} {kk : Nat} (hg : Gl X "zip") (hm : X.mg "zip" = none) (ha : PA X [e, e2] ta)
    (hs : starEach [e, e2] X.env = (false, eval e X.env) :: starEach [e2] X.env := by rfl) (hpl : (backTo pos (starEach [e2] X.env)).any (·.1) = false := by rfl) :
    PI X (.Tuple elts kk tpos) (.Call (.Name "zip" p) [e, e2] [] pos) (iZ2 X.K ta) := by
  refine ⟨fun pins s σ H R I h => ?_⟩
  refine Call_ (ld_blt I hg hm PyProof.Rows.boot_zip (PyProof.Rows.callWith_type1 (thn (ha.run pos pins s σ H _ I h) fun us s1 ⟨vs, H1, I1, r1, q1⟩ => ?_) hs hpl))
  obtain ⟨b1, b2, a, b, xs, ys, ex, hqx, hqy, q⟩ := q1
  subst ex
  cases r1 with
  | cons r rr =>
    cases rr with
    | cons r' rr =>
      cases rr
      cases r
      cases r'
      obtain ⟨its, rv, p1, la⟩ := arB_of I1 hqx
      obtain ⟨its2, rv2, p2, lb⟩ := arB_of I1 hqy
      refine zip_begins2 (beginsB b1 a its.toArray) (beginsB b2 b its2.toArray) p1 p2 fun h' hz hTI hTO h1 h2 hsz hk => wpAny_pyIter_zip hz ?_
      have I2 : Inv X pins σ H1 { s1 with heap := h' } := I1.kept (t' := s1.toks) hk
      refine ⟨s1.heap.objs.size + 4, [s1.heap.objs.size + 4, s1.heap.objs.size + 2, s1.heap.objs.size + 3, s1.heap.objs.size, s1.heap.objs.size + 1], _, _, H1, rfl, I2, turn_z2 (PySem.W.ktu_apart s1.heap.objs.size a b la lb), ⟨hz, hTI, ⟨_, _, hTO⟩, itB_new h1, itB_new h2⟩, fun c hcm => ?_, q⟩
      have e' : c = s1.heap.objs.size + 4 ∨ c = s1.heap.objs.size + 2 ∨ c = s1.heap.objs.size + 3 ∨ c = s1.heap.objs.size ∨ c = s1.heap.objs.size + 1 := by simpa using hcm
      have hle : s1.heap.objs.size ≤ c := by
        rcases e' with z | z | z | z | z
        · rw [z]; exact Nat.le_add_right _ _
        · rw [z]; exact Nat.le_add_right _ _
        · rw [z]; exact Nat.le_add_right _ _
        · rw [z]; exact Nat.le_refl _
        · rw [z]; exact Nat.le_add_right _ _
      exact I1.fpOk hle (I1.hok.fresh hle)
def iSq (K : PySem.W.Frag) (tl : TE) : TI := fun σ H R => tl σ H fun x H1 => ∃ b a xs, x = .ref a ∧ SqB K H1 b a xs ∧ R (match b with | true => Itl K a | false => Itt K a) H1
theorem pi_sq {X : Cx} {tg l : Expr} {tl : TE} (hl : PE X l tl) : PI X tg l (iSq X.K tl) := by
  refine ⟨fun pins s σ H R I h => ?_⟩
  refine thn (hl.run pins s σ H _ I h) fun v s1 ⟨x, H1, I1, r1, q1⟩ => ?_
  obtain ⟨b, a, xs, e, hq, q⟩ := q1
  subst e
  cases r1
  have fr : ∀ c ∈ [s1.heap.objs.size], FpOk X pins H1 c := fun c hc => by
    have e : c = s1.heap.objs.size := by simpa using hc
    subst e
    exact I1.fpOk (Nat.le_refl _) (I1.hok.fresh (Nat.le_refl _))
  cases b with
  | true =>
    obtain ⟨its, rv, p, hz⟩ := I1.list hq
    refine wpAny_pyIter_list p.isList ?_
    exact ⟨s1.heap.objs.size, [s1.heap.objs.size], _, _, H1, rfl, I1.kept (t' := s1.toks) fun b o e => Heap.get?_push_of_some _ e, turn_list a _, ⟨_, Heap.get?_push_size _ rfl, rfl, rfl⟩, fr, q⟩
  | false =>
    obtain ⟨its, rv, p, hz⟩ := I1.tuple hq
    refine wpAny_pyIter_tuple (show s1.heap.IsTuple a its.toArray from p) ?_
    exact ⟨s1.heap.objs.size, [s1.heap.objs.size], _, _, H1, rfl, I1.kept (t' := s1.toks) fun b o e => Heap.get?_push_of_some _ e, turn_tuple a _, ⟨_, Heap.get?_push_size _ rfl, rfl, rfl⟩, fr, q⟩
def Ien (K : PySem.W.Frag) (b : Bool) (a : Addr) : It :=
  ⟨fun i H => ∃ (xs : List V) (x : V), SqB K H b a xs ∧ xs[i]? = some x, fun i H v H' => ∃ T x, v = .ref T ∧ H T = none ∧ H' = upd H T (.tup [.int (i : Nat), x]) ∧ ∀ xs, SqB K H b a xs → xs[i]? = some x, fun i H => ∃ xs : List V, SqB K H b a xs ∧ i = xs.length⟩
theorem turn_en {P : Program} {w : World} {K : PySem.W.Frag} {elts : List Expr} {kk : Nat} {tpos : Pos} {b : Bool} (a e it : Addr) :
    Turn P w K (.Tuple elts kk tpos) (Ien K b a) [e, it] e (fun i h => (∃ old, IsEnum h e it ((i : Nat) : Int) old) ∧ ItB h b it a i ∧ e ≠ it ∧ a ≠ it ∧ a ≠ e) where
  mem := by simp
  obj := fun i h st c hb => by
    obtain ⟨⟨old, he⟩, hi, _⟩ := st
    have e' : c = e ∨ c = it := by simpa using hb
    rcases e' with z | z
    · rw [z]; exact ⟨_, he, fun v q => nomatch q⟩
    · rw [z]; exact itB_obj hi
  keep := fun i h h' st k => let ⟨⟨old, he⟩, hi, hne⟩ := st; ⟨⟨old, k e (by simp) _ he⟩, itB_at hi fun o q => k it (by simp) o q, hne⟩
  item := by
    intro X hP hw hK hc i pins s σ H E I hf st hg
    subst hP hw hK
    obtain ⟨⟨old, he⟩, hit, hne, hai, hae⟩ := st
    obtain ⟨xs, x, hq, hx⟩ := hg
    obtain ⟨its, rv, p, hz⟩ := arB_of I hq
    obtain ⟨u, hu, ru⟩ := rv.get hx
    have hel : e < s.heap.objs.size := Heap.lt_size he
    have hil : it < s.heap.objs.size := itB_lt hit
    have hh := I.ok.hd hc
    refine wpAny_pyNext_enum_itemC (i := i) (drawsB (prog := X.prog) (w := X.w) (A := X.A.in1) hh b it a hai its.toArray) he ⟨hit, p⟩ ?_ hne ?_ fun x1 h' tk e1 ho st' hT hsz hk => ?_
    · have := (List.getElem?_eq_some_iff.mp hu).1; simpa using this
    · simp only [List.mem_cons, List.not_mem_nil, or_false, not_or]; exact ⟨hne, hae.symm⟩
    have q1 : x1 = u := by have e1 : its.toArray[i]? = some x1 := e1; simp only [List.getElem?_toArray] at e1; rw [hu] at e1; exact (Option.some.inj e1).symm
    subst q1
    refine ⟨_, rfl, wpAny_letOwnedTupleGo_enum (s := { s with heap := h', toks := tk + 1 }) ho fun h'' he' sb => ?_⟩
    have hT2 : h''.get? s.heap.objs.size = some { cls := .type "tuple", data := .seq #[.int i tk, x1] } := (sb.2 _ (Nat.ne_of_gt hel)).trans hT
    have new : ObjOk X.prog X.w (upd H s.heap.objs.size (.tup [.int (i : Nat), x])) h'' s.heap.objs.size (.tup [.int (i : Nat), x]) :=
      ⟨by show 2 ≤ sizeLine; decide, [.int i tk, x1], .cons ⟨_, rfl⟩ (.cons ru .nil), ⟨_, hT2, rfl, _, rfl⟩⟩
    have I1 : Inv X pins σ (upd H s.heap.objs.size (.tup [.int (i : Nat), x])) { s with heap := h'', toks := tk + 1 } :=
      I.turnedNew (t' := tk + 1) (ch := [e, it]) (fun b ob hb q => (sb.2 b (fun z => hb (by simp [z]))).trans (hk b ob (fun z => hb (by simp [z])) (fun z => hb (by simp [z])) q)) hf (Nat.le_refl _) new
    refine ⟨.ref s.heap.objs.size, _, I1, rfl, ⟨_, x, rfl, I.hok.fresh (Nat.le_refl _), rfl, fun ys hy => by rw [sqB_inj I hy hq]; exact hx⟩, ⟨⟨x1, ?_⟩, itB_at st'.1 fun o q => (sb.2 it (Ne.symm hne)).trans q, hne, hai, hae⟩, fun b hb => ?_⟩
    · have e1 : ((i + 1 : Nat) : Int) = (i : Int) + 1 := by omega
      rw [e1]; exact he'
    · have hb' : b < s.heap.objs.size := by
        have e' : b = e ∨ b = it := by simpa using hb
        rcases e' with z | z
        · rw [z]; exact hel
        · rw [z]; exact hil
      rw [upd_ne (Nat.ne_of_lt hb')]
      exact (hf b hb).1
  done := by
    intro X hP hw hK hc i pins s σ H E I hf st hg
    subst hP hw hK
    obtain ⟨⟨old, he⟩, hit, hne, hai, hae⟩ := st
    obtain ⟨xs, hq, hx⟩ := hg
    obtain ⟨its, rv, p, hz⟩ := arB_of I hq
    have hl := rv.length
    have hh := I.ok.hd hc
    have hsz : i = its.toArray.size := by simp; omega
    subst hsz
    obtain ⟨f0, f1, f2, f3, f4, f5⟩ := hf it (by simp)
    exact wpAny_pyNext_enum_endD (drawsB (prog := X.prog) (w := X.w) (A := X.A.in1) hh b it a hai its.toArray) he ⟨hit, p⟩ fun h' eb => ⟨rfl, I.turned (t' := s.toks) (fun b o hb q => eb b o hb q) f0 f1 f3 f4 f5⟩
  self := fun A i s Q E st h => let ⟨⟨_, he⟩, _⟩ := st; wpAny_pyIter_enum he h
set_option maxHeartbeats 1000000 in
theorem meets_enumerate_newB1 {v : Value} {o : Obj} {H : Heap → Prop} (B : Begins v o H) :
    Meets (Builtin.«enumerate.__new__» ⟨[.type "enumerate", v], []⟩) (fun _ R s => H s.heap ∧
      R (.ok (.ret (.ref (s.heap.push o).objs.size))) { s with heap := (s.heap.push o).push { cls := .type "enumerate", data := .fields #[.none, .bool false, .ref s.heap.objs.size, rawInt 0, .none, .none] } }) :=
  .of_wp fun prog w A R s h => by
    obtain ⟨hp, g, d, tk, os⟩ := s; obtain ⟨h1, h⟩ := h
    have hsub := sub_enumerate
    have q1 : ∀ {A' : Around} {E : Value → Shared → Prop} {Q : Value → Shared → Prop}, Q (.ref hp.objs.size) ⟨hp.push o, g, d, tk, os⟩ → wpAny (model prog w) A' (pyIter v) Q E ⟨hp, g, d, tk, os⟩ :=
      fun q => B.iter prog w _ _ ⟨hp, g, d, tk, os⟩ _ h1 q
    wp_walk using q1
    refine wpAny_stack_any fun st => wpAny_pure ?_
    split
    · rename_i c _ _ _ _ _
      cases (c == Value.type "enumerate")
      · wp_walk using q1
        exact ⟨_, rfl, h⟩
      · wp_walk using q1
        exact ⟨_, rfl, h⟩
    · wp_walk using q1
      exact ⟨_, rfl, h⟩
theorem enum_begins1 {prog : Program} {w : World} {A : Around} {E : Value → Shared → Prop} {s : Shared} {v : Value} {o : Obj} {H : Heap → Prop} {Q : Value → Shared → Prop} (B : Begins v o H) (h1 : H s.heap)
    (h : ∀ h', IsEnum h' (s.heap.objs.size + 1) s.heap.objs.size 0 .none → h'.get? s.heap.objs.size = some o → h'.objs.size = s.heap.objs.size + 2 →
      (∀ b o, s.heap.get? b = some o → h'.get? b = some o) → Q (.ref (s.heap.objs.size + 1)) { s with heap := h' }) :
    wpAny (model prog w) A (call (.type "enumerate") [v]) Q E s := by
  refine callType_new F.called_enumerate (by decide) (F.typeCall_enumerate_1 _) (F.newCall_enumerate_1 _) (fun obj => F.args_object_init_2 obj _) F.entry_enumerate_new
    (meets_enumerate_newB1 B) ⟨h1, ?_⟩
  have hz : (s.heap.push o).objs.size = s.heap.objs.size + 1 := Heap.size_push ..
  show _ ∧ _
  rw [hz]
  have he : IsEnum ((s.heap.push o).push { cls := .type "enumerate", data := .fields #[.none, .bool false, .ref s.heap.objs.size, rawInt 0, .none, .none] }) (s.heap.objs.size + 1) s.heap.objs.size 0 .none := by
    have := Heap.get?_push_size (s.heap.push o) (o := { cls := .type "enumerate", data := .fields #[.none, .bool false, .ref s.heap.objs.size, rawInt 0, .none, .none] }) rfl
    rw [hz] at this; exact this
  refine ⟨⟨_, he, rfl⟩, h _ he (Heap.get?_push_of_some _ (Heap.get?_push_size _ B.free)) (by rw [Heap.size_push, hz]) fun b o x => Heap.get?_push_of_some _ (Heap.get?_push_of_some _ x)⟩
def iEn (K : PySem.W.Frag) (ta : TA) : TI := fun σ H R => ta σ H fun vs H1 => ∃ b a xs, vs = [.ref a] ∧ SqB K H1 b a xs ∧ R (Ien K b a) H1
theorem pi_en {X : Cx} {e : Expr} {ta : TA} {p pos tpos : Pos} {elts : List Expr} {kk : Nat} (hg : Gl X "enumerate") (hm : X.mg "enumerate" = none) (ha : PA X [e] ta) (hs : starEach [e] X.env = [(false, eval e X.env)] := by rfl) :
    PI X (.Tuple elts kk tpos) (.Call (.Name "enumerate" p) [e] [] pos) (iEn X.K ta) := by
  refine ⟨fun pins s σ H R I h => ?_⟩
  refine Call_ (ld_blt I hg hm boot_enumerate (PyProof.Rows.callWith_type1 (thn (ha.run pos pins s σ H _ I h) fun us s1 ⟨vs, H1, I1, r1, q1⟩ => ?_) hs rfl))
  obtain ⟨b, a, xs, ex, hq, q⟩ := q1
  subst ex
  cases r1 with
  | cons r rr =>
    cases rr
    cases r
    obtain ⟨its, rv, p', la⟩ := arB_of I1 hq
    refine enum_begins1 (beginsB b a its.toArray) p' fun h' he hit hsz hk => wpAny_pyIter_enum he ?_
    have I2 : Inv X pins σ H1 { s1 with heap := h' } := I1.kept (t' := s1.toks) hk
    refine ⟨s1.heap.objs.size + 1, [s1.heap.objs.size + 1, s1.heap.objs.size], _, _, H1, rfl, I2, turn_en a (s1.heap.objs.size + 1) s1.heap.objs.size, ⟨⟨.none, he⟩, itB_new hit, Nat.succ_ne_self _, Nat.ne_of_lt la, Nat.ne_of_lt (Nat.lt_succ_of_lt la)⟩, fun b hb => ?_, q⟩
    have e' : b = s1.heap.objs.size + 1 ∨ b = s1.heap.objs.size := by simpa using hb
    have hle : s1.heap.objs.size ≤ b := by
      rcases e' with z | z
      · rw [z]; exact Nat.le_add_right _ _
      · rw [z]; exact Nat.le_refl _
    exact I1.fpOk hle (I1.hok.fresh hle)
structure ItOk (K : PySem.W.Frag) (w : Bool) (J : It) (ds : List D) (G : (Addr → Prop) → Hp → Prop) : Prop where
  goes : ∀ O i H, i < ds.length → G O H → J.go i H
  stops : ∀ O H, G O H → J.stop ds.length H
  yld : ∀ O i H x H' d, Al O H → G O H → ds[i]? = some d → J.yld i H x H' → Same H H' ∧ Rep K O H' x d
  keep : ∀ (O W : Addr → Prop) H O' H', G O H → (∀ a, W a → H a = none ∨ (w = false ∧ O a)) → Ext W H H' → (∀ a, O' a → O a ∨ H a = none) → G O' H'
theorem ItOk.keepS {K : PySem.W.Frag} {w : Bool} {J : It} {ds : List D} {G : (Addr → Prop) → Hp → Prop} (ok : ItOk K w J ds G) : ∀ O H H', G O H → Same H H' → G O H' := fun O H H' g e =>
  ok.keep O (fun _ => False) H O H' g (fun _ z => z.elim) (Ext.of_same e) fun _ z => .inl z
structure IV (X : Cx) (E : XK) (p w : Bool) (tg iter : Expr) (f : AS) : Prop where
  ex : ∃ wi, PI X tg iter wi ∧ ∀ (O W : Addr → Prop) (σ : St) (H : Hp) (ρ : List B) (R : It → Hp → Prop), StR X.K O W σ H ρ →
    Wr (f ρ) (fun r => ∀ J G H', Post p X.K O W σ H H' ρ r.2 → ItOk X.K w J r.1 G → G O H' → R J H') (EX X E O W H) → wi σ H R
theorem SqB.same {K : PySem.W.Frag} {H H' : Hp} {b : Bool} {a : Addr} {vs : List V} (h : SqB K H b a vs) (e : Same H H') : SqB K H' b a vs := by
  cases b with
  | true => exact e.seq h
  | false =>
    rcases h with (h | ⟨o, h⟩) | h
    · exact .inl (.inl (e _ _ h))
    · exact .inl (.inr ⟨o, e _ _ h⟩)
    · exact .inr h
def AtB (K : PySem.W.Frag) (O : Addr → Prop) (H : Hp) : Bool → Addr → List V → Prop
  | true, a, xs => AtL K O H a xs
  | false, a, xs => AtT K O H a xs
def Gs (K : PySem.W.Frag) (w b : Bool) (a : Addr) (vs : List V) (ds : List D) (O : Addr → Prop) (H : Hp) : Prop :=
  SqB K H b a vs ∧ Reps K O H vs ds ∧ (w = false → AtB K O H b a vs)
section
variable {K : PySem.W.Frag} {w b : Bool} {a : Addr} {vs : List V} {ds : List D} {O W O' : Addr → Prop} {H H' : Hp}
theorem Gs.keep (g : Gs K w b a vs ds O H) (s : ∀ a, W a → H a = none ∨ (w = false ∧ O a)) (e : Ext W H H') (ho : ∀ a, O' a → O a ∨ H a = none) : Gs K w b a vs ds O' H' := by
  have r : Reps K O' H' vs ds := ((g.2.1.shun (O' := fun a => O a ∨ O' a ∨ H a = none) fun a z => z.elim .inl fun z => z.elim (ho a) .inr).ext e fun a z => (s a z).elim (fun z => .inr (.inr z)) fun z => .inl z.2).less fun a z => .inr (.inl z)
  have strict : w = false → AtB K O' H' b a vs := fun hw => by
    have h := g.2.2 hw
    cases b with
    | true =>
      rcases h with ⟨h, n⟩ | h
      · exact .inl ⟨Rd.ext h (fun z => (s a z).elim (Rd.there h) fun z => n z.2) e, fun z => (ho _ z).elim n (Rd.there h)⟩
      · exact .inr h
    | false =>
      rcases h with ⟨h, n⟩ | h
      · exact .inl ⟨Rd.ext h (fun z => (s a z).elim (Rd.there h) fun z => n z.2) e, fun z => (ho _ z).elim n (Rd.there h)⟩
      · exact .inr h
  refine ⟨?_, r, strict⟩
  cases w with
  | false =>
    have h := strict rfl
    cases b with
    | true => exact AtL.sq h
    | false => exact AtT.sq h
  | true =>
    cases b with
    | true =>
      rcases g.1 with h | h
      · exact .inl (Rd.ext h (fun z => (s a z).elim (Rd.there h) fun z => nomatch z.1) e)
      · exact .inr h
    | false =>
      rcases g.1 with h | h
      · exact .inl (Rd.ext h (fun z => (s a z).elim (Rd.there h) fun z => nomatch z.1) e)
      · exact .inr h
end
def seqD : D → Option (List D)
  | .tup ds => some ds
  | .lst ds => some ds
  | _ => none
theorem gs_of {K : PySem.W.Frag} {w : Bool} {O : Addr → Prop} {H : Hp} {v : V} {d : D} {ds : List D} (r : RepW w K O H v d) (e : seqD d = some ds) : ∃ b a vs, v = .ref a ∧ Gs K w b a vs ds O H := by
  cases d with
  | tup es =>
    cases e
    obtain ⟨a, vs, h1, h2, h3⟩ := r.tup_inv
    exact ⟨false, a, vs, h1, h2.sq, h3, fun _ => h2⟩
  | lst es =>
    cases e
    rcases r with r | ⟨hw, a, vs, ds', h1, h, h3, h4⟩
    · obtain ⟨a, vs, h1, h2, h3⟩ := r.lst_inv
      exact ⟨true, a, vs, h1, h2.sq, h3, fun _ => h2⟩
    · cases h
      exact ⟨true, a, vs, h1, h3.sq, h4, fun z => by rw [hw] at z; cases z⟩
  | _ => cases e
theorem itok_sq {K : PySem.W.Frag} {w b : Bool} {a : Addr} {vs : List V} {ds : List D} : ItOk K w (match b with | true => Itl K a | false => Itt K a) ds (Gs K w b a vs ds) where
  goes := fun O i H hi g => by
    have hl := g.2.1.length
    cases b with
    | true => exact ⟨vs, vs[i], g.1, by simp [show i < vs.length by omega]⟩
    | false => exact ⟨vs, vs[i], g.1, by simp [show i < vs.length by omega]⟩
  stops := fun O H g => by
    have hl := g.2.1.length
    cases b with
    | true => exact ⟨vs, g.1, by omega⟩
    | false => exact ⟨vs, g.1, by omega⟩
  yld := fun O i H x H' d al g e y => by
    cases b with
    | true =>
      obtain ⟨rfl, y⟩ := y
      exact ⟨fun _ _ h => h, g.2.1.get (y vs g.1) e⟩
    | false =>
      obtain ⟨rfl, y⟩ := y
      exact ⟨fun _ _ h => h, g.2.1.get (y vs g.1) e⟩
  keep := fun O W H O' H' g s e ho => g.keep s e ho
def iSeq (f : ES) : AS := fun ρ => (f ρ).bind fun x => (ofO (seqD x.1)).bind fun ds => .ok (ds, x.2)
section
variable {X : Cx} {E : XK} {p q w w1 w2 : Bool} {tg e e2 : Expr} {fe fe2 : ES} {pos ppos tpos : Pos} {elts : List Expr} {kk : Nat}
theorem iv_seq (h : EV X E p w e fe) : IV X E p w tg e (iSeq fe) := by
  obtain ⟨t, pt, rt⟩ := h.ex
  refine ⟨_, pi_sq pt, fun O W σ H ρ R s h => ?_⟩
  refine rt O W σ H ρ _ s (h.bind.mono (fun x hx v H' po r => ?_) fun _ _ z => z)
  obtain ⟨ds, ed, hd⟩ := hx.bind.ofO
  obtain ⟨b, a, vs, e1, g⟩ := gs_of r ed
  exact ⟨b, a, vs, e1, g.1, hd _ _ H' po itok_sq g⟩
theorem itok_range {K : PySem.W.Frag} {w : Bool} {lo : Int} {n : Nat} : ItOk K w (Itr lo n) ((List.range n).map fun i => D.int (lo + (i : Nat))) (fun _ _ => True) where
  goes := fun O i H hi _ => by rw [List.length_map, List.length_range] at hi; exact hi
  stops := fun O H _ => by rw [List.length_map, List.length_range]; exact Nat.le_refl n
  yld := fun O i H x H' d al _ e y => by
    obtain ⟨rfl, rfl⟩ := y
    rw [List.getElem?_map] at e
    by_cases hi : i < n
    · rw [List.getElem?_range hi] at e
      cases e
      exact ⟨fun _ _ h => h, .int _⟩
    · rw [List.getElem?_eq_none (by rw [List.length_range]; omega)] at e
      cases e
  keep := fun _ _ _ _ _ _ _ _ _ => trivial
def rangeD (lo hi : Int) : Option (List D) := if (-(2 ^ 62) ≤ lo ∧ lo < 2 ^ 62) ∧ (-(2 ^ 62) ≤ hi ∧ hi < 2 ^ 62) then some ((List.range (hi - lo).toNat).map fun i => D.int (lo + (i : Nat))) else none
def iRange1 (f : ES) : AS := fun ρ => (f ρ).bind fun x => match x.1 with
  | .int hi => (ofO (rangeD 0 hi)).bind fun ds => .ok (ds, x.2)
  | _ => .bad
def iRange2 (f g : ES) : AS := fun ρ => (f ρ).bind fun x => (g x.2).bind fun y => match x.1, y.1 with
  | .int lo, .int hi => (ofO (rangeD lo hi)).bind fun ds => .ok (ds, y.2)
  | _, _ => .bad
theorem rangeD_some {lo hi : Int} {ds : List D} (e : rangeD lo hi = some ds) : ((-(2 ^ 62) ≤ lo ∧ lo < 2 ^ 62) ∧ (-(2 ^ 62) ≤ hi ∧ hi < 2 ^ 62)) ∧ ds = (List.range (hi - lo).toNat).map fun i => D.int (lo + (i : Nat)) := by
  unfold rangeD at e
  split at e
  · rename_i hb
    cases e
    exact ⟨hb, rfl⟩
  · cases e
theorem iv_range1 (hg : Gl X "range") (hm : X.mg "range" = none) (h : EV X E p false e fe) (hs : starEach [e] X.env = [(false, eval e X.env)] := by rfl) : IV X E p false tg (.Call (.Name "range" ppos) [e] [] pos) (iRange1 fe) := by
  obtain ⟨t, pt, rt⟩ := h.ex
  refine ⟨_, pi_range1 hg hm (pa_cons pt pa_nil hs) hs, fun O W σ H ρ R s h => ?_⟩
  refine rt O W σ H ρ _ s (h.bind.mono (fun x hx v H' po r => ?_) fun _ _ z => z)
  obtain ⟨d, ρ'⟩ := x
  cases d with
  | int hi =>
    obtain ⟨ds, ed, hd⟩ := Wr.ofO (Wr.bind hx)
    obtain ⟨hb, rfl⟩ := rangeD_some ed
    refine ⟨hi, by rw [r.int_inv], hb.2.1, hb.2.2, ?_⟩
    have e0 : (hi - 0).toNat = hi.toNat := by rw [Int.sub_zero]
    rw [e0] at hd
    exact hd _ _ H' po itok_range (show (fun (_ : Addr → Prop) (_ : Hp) => True) O H' from trivial)
  | _ => exact hx.elim
theorem iv_range2 (hg : Gl X "range") (hm : X.mg "range" = none) (h : EV X E p false e fe) (h2 : EV X E q false e2 fe2) (hs : starEach [e, e2] X.env = [(false, eval e X.env), (false, eval e2 X.env)] := by rfl) (hs2 : starEach [e2] X.env = [(false, eval e2 X.env)] := by rfl) :
    IV X E (p && q) false tg (.Call (.Name "range" ppos) [e, e2] [] pos) (iRange2 fe fe2) := by
  obtain ⟨t, pt, rt⟩ := h.ex
  obtain ⟨t2, pt2, rt2⟩ := h2.ex
  refine ⟨_, pi_range2 hg hm (pa_cons pt (pa_cons pt2 pa_nil hs2) (by rw [hs, hs2])) hs hs2, fun O W σ H ρ R s h => ?_⟩
  refine bin2 rt rt2 (by rfl) s (h.bind.mono (fun x hx => hx.bind.mono (fun y hy v u H' po r1 r2 => ?_) fun _ _ z => z) fun _ _ z => z)
  obtain ⟨d, ρ'⟩ := x
  obtain ⟨d2, ρ''⟩ := y
  cases d with
  | int lo =>
    cases d2 with
    | int hi =>
      obtain ⟨ds, ed, hd⟩ := Wr.ofO (Wr.bind hy)
      obtain ⟨hb, rfl⟩ := rangeD_some ed
      exact ⟨lo, hi, by rw [r1.int_inv, r2.int_inv], ⟨hb.1.1, hb.1.2, hb.2.1, hb.2.2⟩, hd _ _ H' po itok_range (show (fun (_ : Addr → Prop) (_ : Hp) => True) O H' from trivial)⟩
    | _ => exact hy.elim
  | _ => exact hy.elim
def enumD : Nat → List D → List D
  | _, [] => []
  | i, d :: ds => .tup [.int (i : Nat), d] :: enumD (i + 1) ds
theorem enumD_get : ∀ (ds : List D) (k i : Nat), (enumD k ds)[i]? = ds[i]?.map fun d => .tup [.int ((k + i : Nat) : Int), d]
  | [], k, i => by simp [enumD]
  | d :: ds, k, 0 => by simp [enumD]
  | d :: ds, k, i + 1 => by
    simp only [enumD, List.getElem?_cons_succ]
    rw [enumD_get ds (k + 1) i]
    have : k + 1 + i = k + (i + 1) := by omega
    rw [this]
theorem enumD_len : ∀ (ds : List D) (k : Nat), (enumD k ds).length = ds.length
  | [], k => rfl
  | d :: ds, k => by simp [enumD, enumD_len ds (k + 1)]
theorem itok_en {K : PySem.W.Frag} {w b : Bool} {a : Addr} {vs : List V} {ds : List D} : ItOk K w (Ien K b a) (enumD 0 ds) (Gs K w b a vs ds) where
  goes := fun O i H hi g => by
    have hl := g.2.1.length
    rw [enumD_len] at hi
    exact ⟨vs, vs[i], g.1, by simp [show i < vs.length by omega]⟩
  stops := fun O H g => by
    have hl := g.2.1.length
    rw [enumD_len]
    exact ⟨vs, g.1, by omega⟩
  yld := fun O i H x H' d al g e y => by
    obtain ⟨T, x', rfl, nT, rfl, f⟩ := y
    rw [enumD_get] at e
    cases ed : ds[i]? with
    | none => rw [ed] at e; cases e
    | some d0 =>
      rw [ed] at e
      cases e
      refine ⟨same_new nT, ?_⟩
      rw [Nat.zero_add]
      exact Rep.newT al nT (.cons (.int _) (.cons (g.2.1.get (f vs g.1) ed) .nil))
  keep := fun O W H O' H' g s e ho => g.keep s e ho
def iEnum' (f : ES) : AS := fun ρ => (f ρ).bind fun x => (ofO (seqD x.1)).bind fun ds => .ok (enumD 0 ds, x.2)
theorem iv_enum (hg : Gl X "enumerate") (hm : X.mg "enumerate" = none) (h : EV X E p w e fe) (hs : starEach [e] X.env = [(false, eval e X.env)] := by rfl) : IV X E p w (.Tuple elts kk tpos) (.Call (.Name "enumerate" ppos) [e] [] pos) (iEnum' fe) := by
  obtain ⟨t, pt, rt⟩ := h.ex
  refine ⟨_, pi_en hg hm (pa_cons pt pa_nil hs) hs, fun O W σ H ρ R s h => ?_⟩
  refine rt O W σ H ρ _ s (h.bind.mono (fun x hx v H' po r => ?_) fun _ _ z => z)
  obtain ⟨ds, ed, hd⟩ := hx.bind.ofO
  obtain ⟨b, a, vs, e1, g⟩ := gs_of r ed
  subst e1
  exact ⟨b, a, vs, rfl, g.1, hd _ _ H' po itok_en g⟩
def zipD : List D → List D → List D
  | a :: as, b :: bs => .tup [a, b] :: zipD as bs
  | _, _ => []
theorem zipD_get : ∀ (as bs : List D) (i : Nat) (d : D), (zipD as bs)[i]? = some d → ∃ a b, as[i]? = some a ∧ bs[i]? = some b ∧ d = .tup [a, b]
  | [], bs, i, d, h => by simp [zipD] at h
  | _ :: _, [], i, d, h => by simp [zipD] at h
  | a :: as, b :: bs, 0, d, h => by
    simp [zipD] at h
    exact ⟨a, b, rfl, rfl, h.symm⟩
  | a :: as, b :: bs, i + 1, d, h => by
    simp only [zipD, List.getElem?_cons_succ] at h
    obtain ⟨x, y, h1, h2, h3⟩ := zipD_get as bs i d h
    exact ⟨x, y, by simpa using h1, by simpa using h2, h3⟩
theorem zipD_len : ∀ (as bs : List D), (zipD as bs).length = min as.length bs.length
  | [], bs => by simp [zipD]
  | _ :: _, [] => by simp [zipD]
  | a :: as, b :: bs => by
    simp only [zipD, List.length_cons, zipD_len as bs]
    omega
theorem itok_z2 {K : PySem.W.Frag} {w1 w2 b1 b2 : Bool} {a c : Addr} {vs us : List V} {ds es : List D} : ItOk K (w1 || w2) (Iz2 K b1 b2 a c) (zipD ds es) (fun O H => Gs K w1 b1 a vs ds O H ∧ Gs K w2 b2 c us es O H) where
  goes := fun O i H hi g => by
    have hl := g.1.2.1.length
    have hl2 := g.2.2.1.length
    rw [zipD_len] at hi
    exact ⟨vs, us, vs[i], us[i], g.1.1, g.2.1, by simp [show i < vs.length by omega], by simp [show i < us.length by omega]⟩
  stops := fun O H g => by
    have hl := g.1.2.1.length
    have hl2 := g.2.2.1.length
    rw [zipD_len]
    exact ⟨vs, us, g.1.1, g.2.1, by omega, by omega, by omega⟩
  yld := fun O i H x H' d al g e y => by
    obtain ⟨T, x', y', rfl, nT, rfl, f, f2⟩ := y
    obtain ⟨d1, d2, h1, h2, rfl⟩ := zipD_get _ _ _ _ e
    exact ⟨same_new nT, Rep.newT al nT (.cons (g.1.2.1.get (f vs g.1.1) h1) (.cons (g.2.2.1.get (f2 us g.2.1) h2) .nil))⟩
  keep := fun O W H O' H' g s e ho => by
    refine ⟨g.1.keep (fun a z => (s a z).imp id fun z => ⟨?_, z.2⟩) e ho, g.2.keep (fun a z => (s a z).imp id fun z => ⟨?_, z.2⟩) e ho⟩
    · cases w1 with
      | false => rfl
      | true => exact nomatch z.1
    · cases w2 with
      | false => rfl
      | true =>
        have q := z.1
        cases w1 <;> cases q
def iZip' (f g : ES) : AS := fun ρ => (f ρ).bind fun x => (g x.2).bind fun y => (ofO (seqD x.1)).bind fun ds => (ofO (seqD y.1)).bind fun es => .ok (zipD ds es, y.2)
theorem iv_zip (hg : Gl X "zip") (hm : X.mg "zip" = none) (h : EV X E p w1 e fe) (h2 : EV X E q w2 e2 fe2) (hw : (!w1 || q) = true := by rfl)
    (hs : starEach [e, e2] X.env = (false, eval e X.env) :: starEach [e2] X.env := by rfl) (hs2 : starEach [e2] X.env = [(false, eval e2 X.env)] := by rfl) (hpl : (backTo pos (starEach [e2] X.env)).any (·.1) = false := by rfl) :
    IV X E (p && q) (w1 || w2) (.Tuple elts kk tpos) (.Call (.Name "zip" ppos) [e, e2] [] pos) (iZip' fe fe2) := by
  obtain ⟨t, pt, rt⟩ := h.ex
  obtain ⟨t2, pt2, rt2⟩ := h2.ex
  refine ⟨_, pi_z2 hg hm (pa_cons pt (pa_cons pt2 pa_nil hs2) hs) hs hpl, fun O W σ H ρ R s h => ?_⟩
  refine bin2 rt rt2 hw s (h.bind.mono (fun x hx => hx.bind.mono (fun y hy v u H' po r1 r2 => ?_) fun _ _ z => z) fun _ _ z => z)
  obtain ⟨ds, ed, hd⟩ := Wr.ofO (Wr.bind hy)
  obtain ⟨es, ee, he⟩ := Wr.ofO (Wr.bind hd)
  obtain ⟨b, a, vs, e1, g⟩ := gs_of r1 ed
  obtain ⟨b2, a2, vs2, e2, g2⟩ := gs_of r2 ee
  subst e1 e2
  exact ⟨b, b2, a, a2, vs, vs2, rfl, g.1, g2.1, he _ _ H' po itok_z2 ⟨g, g2⟩⟩
end
end RT
namespace RT
open PySem PySem.Spec PyProof.Rows L2
def putS (σ : St) : List (Nat × V) → St
  | [] => σ
  | (i, v) :: r => putS (σ.set i (some v)) r
def putB (ρ : List B) : List (Nat × D) → List B
  | [] => ρ
  | (i, d) :: r => putB (ρ.set i (.va d)) r
inductive Puts (K : PySem.W.Frag) (O : Addr → Prop) (H : Hp) : List (Nat × V) → List (Nat × D) → Prop
  | nil : Puts K O H [] []
  | cons {i : Nat} {v : V} {d : D} {vs : List (Nat × V)} {ds : List (Nat × D)} : Rep K O H v d → Puts K O H vs ds → Puts K O H ((i, v) :: vs) ((i, d) :: ds)
theorem Puts.append {K : PySem.W.Frag} {O : Addr → Prop} {H : Hp} : ∀ {vs us : List (Nat × V)} {ds es : List (Nat × D)}, Puts K O H vs ds → Puts K O H us es → Puts K O H (vs ++ us) (ds ++ es)
  | _, _, _, _, .nil, s => s
  | _, _, _, _, .cons r t, s => .cons r (Puts.append t s)
theorem putS_append : ∀ (σ : St) (a b : List (Nat × V)), putS σ (a ++ b) = putS (putS σ a) b
  | _, [], _ => rfl
  | σ, (i, v) :: r, b => putS_append (σ.set i (some v)) r b
theorem StR.puts {K : PySem.W.Frag} {O W : Addr → Prop} {H : Hp} : ∀ {vs : List (Nat × V)} {ds : List (Nat × D)} {σ : St} {ρ : List B}, Puts K O H vs ds → StR K O W σ H ρ → StR K O W (putS σ vs) H (putB ρ ds)
  | _, _, _, _, .nil, s => s
  | _, _, σ, ρ, .cons (i := i) r t, s => StR.puts (σ := σ.set i _) (ρ := ρ.set i _) t (s.put r)
theorem SI.puts {K : PySem.W.Frag} {b : Bs} {O W : Addr → Prop} {H : Hp} : ∀ {vs : List (Nat × V)} {ds : List (Nat × D)} {σ : St} {ρ : List B}, Puts K O H vs ds → SI K b O W σ H ρ → SI K b O W (putS σ vs) H (putB ρ ds)
  | _, _, _, _, .nil, s => s
  | _, _, σ, ρ, .cons (i := i) r t, s => SI.puts (σ := σ.set i _) (ρ := ρ.set i _) t (s.put r)
structure GV (X : Cx) (is : List Nat) (tg : Expr) (f : D → Option (List (Nat × D))) : Prop where
  ex : ∃ g, PG X tg g ∧ ∀ (O : Addr → Prop) (H : Hp) (σ : St) (v : V) (d : D) (as : List (Nat × D)) (Q : St → Hp → Prop), Rep X.K O H v d → f d = some as →
    (∀ vs, Puts X.K O H vs as → vs.map (·.1) = is → Q (putS σ vs) H) → g v σ H Q
structure GVs (X : Cx) (is : List Nat) (tgs : List Expr) (f : List D → Option (List (Nat × D))) : Prop where
  ex : ∃ g, PGs X tgs g ∧ ∀ (O : Addr → Prop) (H : Hp) (σ : St) (vs : List V) (ds : List D) (as : List (Nat × D)) (Q : St → Hp → Prop), Reps X.K O H vs ds → f ds = some as →
    (∀ us, Puts X.K O H us as → us.map (·.1) = is → Q (putS σ us) H) → g vs σ H Q
def gN (i : Nat) (d : D) : Option (List (Nat × D)) := some [(i, d)]
def gsNil : List D → Option (List (Nat × D))
  | [] => some []
  | _ => none
def gsCons (f : D → Option (List (Nat × D))) (g : List D → Option (List (Nat × D))) : List D → Option (List (Nat × D))
  | d :: ds => (f d).bind fun a => (g ds).bind fun b => some (a ++ b)
  | [] => none
def gT (g : List D → Option (List (Nat × D))) : D → Option (List (Nat × D))
  | .tup ds => g ds
  | _ => none
section
variable {X : Cx} {is js : List Nat} {tg : Expr} {tgs : List Expr} {f : D → Option (List (Nat × D))} {g : List D → Option (List (Nat × D))} {pos : Pos} {k : Nat}
theorem gv_name (i : Nat) {x : Str} (hN : X.N.Nodup) (hi : X.N[i]? = some x := by rfl) (hx : Loc X.env.scope x := by first | exact Or.inl rfl | exact Or.inr rfl) (hf : X.fn x = true ∨ X.env.scope.names.lookup x = some .local := by first | exact .inl rfl | exact .inr rfl) : GV X [i] (.Name x pos) (gN i) := by
  refine ⟨_, pg_name hN hi hx hf, fun O H σ v d as Q r e h => ?_⟩
  cases e
  exact h [(i, v)] (.cons r .nil) rfl
theorem gvs_nil : GVs X [] [] gsNil := by
  refine ⟨_, pgs_nil, fun O H σ vs ds as Q r e h => ?_⟩
  cases r with
  | nil => cases e; exact ⟨rfl, h [] .nil rfl⟩
  | cons r t => cases e
theorem gvs_cons (h1 : GV X is tg f) (h2 : GVs X js tgs g) (hs : (assignEach (tg :: tgs) X.env).map (·.2) = assign tg X.env :: (assignEach tgs X.env).map (·.2) := by rfl) : GVs X (is ++ js) (tg :: tgs) (gsCons f g) := by
  obtain ⟨g1, p1, r1⟩ := h1.ex
  obtain ⟨g2, p2, r2⟩ := h2.ex
  refine ⟨_, pgs_cons p1 p2 hs, fun O H σ vs ds as Q r e h => ?_⟩
  cases r with
  | nil => cases e
  | cons r t =>
    rename_i v vs d ds
    have e : ((f d).bind fun a => (g ds).bind fun b => some (a ++ b)) = some as := e
    cases e1 : f d with
    | none => rw [e1] at e; cases e
    | some a =>
      rw [e1, Option.bind_some] at e
      cases e2 : g ds with
      | none => rw [e2] at e; cases e
      | some b =>
        rw [e2] at e
        cases e
        refine ⟨v, vs, rfl, r1 O H σ v d a _ r e1 fun us pu iu => r2 O H _ vs ds b _ t e2 fun us2 pu2 iu2 => ?_⟩
        rw [← putS_append]
        exact h (us ++ us2) (pu.append pu2) (by rw [List.map_append, iu, iu2])
theorem gv_tup (hc : X.calm = true) (h : GVs X is tgs g) (hl : ∀ ds as, g ds = some as → ds.length = tgs.length) (hn : (assignEach tgs X.env).length = tgs.length := by rfl) (hst : (assignEach tgs X.env).findIdx? (·.1) = none := by rfl) : GV X is (.Tuple tgs k pos) (gT g) := by
  obtain ⟨g1, p1, r1⟩ := h.ex
  refine ⟨_, pg_tup hc p1 hn hst, fun O H σ v d as Q r e h => ?_⟩
  cases d with
  | tup ds =>
    obtain ⟨a, vs, rfl, h1, h2⟩ := r.tup_inv
    exact ⟨a, vs, rfl, h1.sq, by rw [h2.length]; exact hl ds as e, r1 O H σ vs ds as Q h2 e h⟩
  | _ => cases e
theorem gsNil_len : ∀ ds as, gsNil ds = some as → ds.length = ([] : List Expr).length
  | [], _, _ => rfl
  | _ :: _, _, h => by cases h
theorem gsCons_len (hg : ∀ ds as, g ds = some as → ds.length = tgs.length) : ∀ ds as, gsCons f g ds = some as → ds.length = (tg :: tgs).length
  | [], _, h => by cases h
  | d :: ds, as, h => by
    have h : ((f d).bind fun a => (g ds).bind fun b => some (a ++ b)) = some as := h
    cases e1 : f d with
    | none => rw [e1] at h; cases h
    | some a =>
      rw [e1, Option.bind_some] at h
      cases e2 : g ds with
      | none => rw [e2] at h; cases h
      | some b => rw [List.length_cons, List.length_cons, hg ds b e2]
end
def forGo (tg : D → Option (List (Nat × D))) (body : List B → Fl) : List D → List B → Fl
  | [], ρ => .nx ρ
  | d :: ds, ρ => match tg d with
    | none => .bad
    | some as => match body (putB ρ as) with
      | .nx ρ' => forGo tg body ds ρ'
      | .ct ρ' => forGo tg body ds ρ'
      | .bk ρ' => .nx ρ'
      | f => f
def sFor (it : AS) (tg : D → Option (List (Nat × D))) (body : List B → Fl) : List B → Fl := fun ρ => sRs (it ρ) fun x => forGo tg body x.1 x.2
theorem FlOk.ends {X : Cx} {E : XK} {b : Bs} {O W : Addr → Prop} {H : Hp} {D1 D2 : Ends} {f : Fl} (h : FlOk X E b O W H D1 f) (h1 : ∀ σ H, D1.nx σ H → D2.nx σ H) (h2 : ∀ v H, D1.rt v H → D2.rt v H) (h3 : ∀ σ H, D1.bk σ H → D2.bk σ H) (h4 : ∀ σ H, D1.ct σ H → D2.ct σ H) : FlOk X E b O W H D2 f := by
  cases f with
  | nx ρ => exact fun O' W' σ' H' s t => h1 _ _ (h O' W' σ' H' s t)
  | rt d ρ => exact fun v O' W' σ' H' s r => h2 _ _ (h v O' W' σ' H' s r)
  | bk ρ => exact fun O' W' σ' H' s t => h3 _ _ (h O' W' σ' H' s t)
  | ct ρ => exact fun O' W' σ' H' s t => h4 _ _ (h O' W' σ' H' s t)
  | ex c x => exact h
  | ro ds ρ => exact fun q vs O' W' σ' H' s n hq r => h2 _ _ (h q vs O' W' σ' H' s n hq r)
  | bad => exact h
theorem drop_cons {ds : List D} {i : Nat} {d : D} {r : List D} (h : ds.drop i = d :: r) : ds[i]? = some d ∧ ds.drop (i + 1) = r ∧ i < ds.length := by
  have hi : i < ds.length := by
    by_cases q : i < ds.length
    · exact q
    · rw [List.drop_eq_nil_of_le (by omega)] at h; cases h
  rw [List.drop_eq_getElem_cons hi] at h
  injection h with h1 h2
  exact ⟨by rw [List.getElem?_eq_getElem hi, h1], h2, hi⟩
section
variable {X : Cx} {E : XK} {p w : Bool} {is : List Nat} {tg iter c : Expr} {body : List Stmt} {it : AS} {f : D → Option (List (Nat × D))} {g : List B → Fl} {be : BS} {pos : Pos}
theorem ss_for (hp : PassesOwn (model X.prog X.w) X.A X.env X.xe) (hc : X.calm = true) (hi : IV X E p false tg iter it) (hg : GV X is tg f) (hb : SSs X E body g)
    (hs : ∀ x, foldedSetIterable iter X.env x = pure x := by intro _; rfl) : SS X E (.For tg iter body [] pos) (sFor it f g) := by
  obtain ⟨wi, pi, ri⟩ := hi.ex
  obtain ⟨gt, pg, rg⟩ := hg.ex
  obtain ⟨tb, pb, rb⟩ := hb.ex
  refine ⟨_, ps_for hp hc pi pg pb hs, fun b O W De σ H ρ s h => ?_⟩
  refine ri O W σ H ρ _ s.st ((FlOk.rs s h).mono (fun x hx J G H1 po ok gg => ?_) fun _ _ z => z)
  obtain ⟨ds, ρ1⟩ := x
  have s1 := s.post po
  have t1 := s.tr po
  refine ⟨fun i m σ' H' => m = ds.length - i ∧ i ≤ ds.length ∧ ∃ O' W' ρ', SI X.K b O' W' σ' H' ρ' ∧ G O' H' ∧ FlOk X E b O' W' H' De (forGo f g (ds.drop i) ρ'), ⟨ds.length, rfl, Nat.zero_le _, O, W, ρ1, s1, gg, FlOk.on hx s.st.sub t1⟩, ?_⟩
  rintro i m σ2 H2 ⟨rfl, hi, O2, W2, ρ2, s2, g2, k2⟩
  by_cases hlt : i < ds.length
  · have ed : ds.drop i = ds[i] :: ds.drop (i + 1) := List.drop_eq_getElem_cons hlt
    rw [ed] at k2
    unfold forGo at k2
    refine .inr ⟨ok.goes O2 i H2 hlt g2, fun σ' H' => i + 1 ≤ ds.length ∧ ∃ O' W' ρ', SI X.K b O' W' σ' H' ρ' ∧ G O' H' ∧ FlOk X E b O' W' H' De (forGo f g (ds.drop (i + 1)) ρ'), fun σ' H' n => ⟨ds.length - (i + 1), by omega, rfl, n.1, n.2⟩, fun x H' y => ?_⟩
    obtain ⟨sm, rx⟩ := ok.yld O2 i H2 x H' ds[i] s2.st.al g2 (List.getElem?_eq_getElem hlt) y
    have po2 : Post true X.K O2 W2 σ2 H2 H' ρ2 ρ2 := Post.of_same s2.st sm
    have s3 := s2.post po2
    have t3 := s2.tr po2
    cases ef : f ds[i] with
    | none => rw [ef] at k2; exact k2.elim
    | some as =>
      simp only [ef] at k2
      refine rg O2 H' σ2 x ds[i] as _ rx ef fun vs pu _ => ?_
      have s4 := SI.puts pu s3
      refine rb b O2 W2 _ _ H' _ s4 ?_
      have k3 := FlOk.on k2 s2.st.sub t3
      have gg3 := ok.keepS O2 H2 H' g2 sm
      have next : ∀ {ρ' : List B}, FlOk X E b O2 W2 H' De (forGo f g (ds.drop (i + 1)) ρ') → ∀ O' W' σ' H'', SI X.K b O' W' σ' H'' ρ' → Tr O2 W2 H' O' W' H'' → i + 1 ≤ ds.length ∧ ∃ O' W' ρ', SI X.K b O' W' σ' H'' ρ' ∧ G O' H'' ∧ FlOk X E b O' W' H'' De (forGo f g (ds.drop (i + 1)) ρ') :=
        fun {ρ'} k O' W' σ' H'' s' t' => ⟨hlt, O', W', ρ', s', ok.keep O2 W2 H' O' H'' gg3 (fun a z => .inr ⟨rfl, s2.st.sub a z⟩) t'.ext t'.ow, FlOk.on k s2.st.sub t'⟩
      cases eb : g (putB ρ2 as) with
      | nx ρ' => simp only [eb] at k3; exact next k3
      | ct ρ' => simp only [eb] at k3; exact next k3
      | bk ρ' => simp only [eb] at k3; exact k3
      | rt d ρ' => simp only [eb] at k3; exact k3
      | ex c x => simp only [eb] at k3; exact k3
      | ro ds ρ' => simp only [eb] at k3; exact k3
      | bad => simp only [eb] at k3; exact k3
  · have e : i = ds.length := by omega
    subst e
    rw [List.drop_length] at k2
    exact .inl ⟨ok.stops O2 H2 g2, k2 O2 W2 σ2 H2 s2 Tr.refl⟩
def whileGo (c : BS) (body : List B → Fl) : Nat → List B → Fl
  | 0, _ => .bad
  | n + 1, ρ => sRs (c ρ) fun x => match x.1 with
    | false => .nx x.2
    | true => match body x.2 with
      | .nx ρ' => whileGo c body n ρ'
      | .ct ρ' => whileGo c body n ρ'
      | .bk ρ' => .nx ρ'
      | f => f
def sWhile (n : Nat) (c : BS) (body : List B → Fl) : List B → Fl := fun ρ => whileGo c body n ρ
theorem ss_while (n : Nat) (hp : PassesOwn (model X.prog X.w) X.A X.env X.xe) (hc : TV X E p c be) (hb : SSs X E body g) : SS X E (.While c body [] pos) (sWhile n be g) := by
  obtain ⟨tc, pc, rc⟩ := hc.ex
  obtain ⟨tb, pb, rb⟩ := hb.ex
  refine ⟨_, ps_while hp pc pb, fun b O W De σ H ρ s h => ?_⟩
  refine ⟨fun m σ' H' => ∃ O' W' ρ', SI X.K b O' W' σ' H' ρ' ∧ FlOk X E b O' W' H' De (whileGo be g m ρ'), ⟨n, O, W, ρ, s, h⟩, ?_⟩
  rintro m σ2 H2 ⟨O2, W2, ρ2, s2, k2⟩
  cases m with
  | zero => exact k2.elim
  | succ m =>
    unfold whileGo at k2
    refine rc O2 W2 σ2 H2 ρ2 _ s2.st ((FlOk.rs s2 k2).mono (fun x hx H3 po => ?_) fun _ _ z => z)
    obtain ⟨k, ρ3⟩ := x
    have s3 := s2.post po
    have t3 := s2.tr po
    cases k with
    | false => exact iteF (hx O2 W2 σ2 H3 s3 t3)
    | true =>
      refine iteT ⟨fun σ' H' => ∃ O' W' ρ', SI X.K b O' W' σ' H' ρ' ∧ FlOk X E b O' W' H' De (whileGo be g m ρ'), fun σ' H' q => ⟨m, Nat.lt_succ_self m, q⟩, ?_⟩
      refine rb b O2 W2 _ σ2 H3 ρ3 s3 ?_
      have k3 : FlOk X E b O2 W2 H3 De (match g ρ3 with
        | .nx ρ' => whileGo be g m ρ'
        | .ct ρ' => whileGo be g m ρ'
        | .bk ρ' => .nx ρ'
        | f => f) := FlOk.on hx s2.st.sub t3
      cases eb : g ρ3 with
      | nx ρ' => simp only [eb] at k3; exact fun O' W' σ' H' s' t' => ⟨O', W', ρ', s', FlOk.on k3 s2.st.sub t'⟩
      | ct ρ' => simp only [eb] at k3; exact fun O' W' σ' H' s' t' => ⟨O', W', ρ', s', FlOk.on k3 s2.st.sub t'⟩
      | bk ρ' => simp only [eb] at k3; exact k3
      | rt d ρ' => simp only [eb] at k3; exact k3
      | ex c x => simp only [eb] at k3; exact k3
      | ro ds ρ' => simp only [eb] at k3; exact k3
      | bad => simp only [eb] at k3; exact k3
end
end RT
namespace RT
open PySem PySem.Spec PyProof.Rows L2
def tE (X : Cx) (E : XK) (p w : Bool) (f : ES) : TE := fun σ H Q => ∃ (O W : Addr → Prop) (ρ : List B), StR X.K O W σ H ρ ∧ Wr (f ρ) (fun r => ∀ v H', Post p X.K O W σ H H' ρ r.2 → RepW w X.K O H' v r.1 → Q v H') (EX X E O W H)
def tT (X : Cx) (E : XK) (p : Bool) (f : BS) : TT := fun σ H Q => ∃ (O W : Addr → Prop) (ρ : List B), StR X.K O W σ H ρ ∧ Wr (f ρ) (fun r => ∀ H', Post p X.K O W σ H H' ρ r.2 → Q r.1 H') (EX X E O W H)
def tGV (X : Cx) (is : List Nat) (f : D → Option (List (Nat × D))) : TG := fun v σ H Q => ∃ (O : Addr → Prop) (d : D) (as : List (Nat × D)), Rep X.K O H v d ∧ f d = some as ∧ ∀ vs, Puts X.K O H vs as → vs.map (·.1) = is → Q (putS σ vs) H
theorem EV.pe {X : Cx} {E : XK} {p w : Bool} {e : Expr} {f : ES} (h : EV X E p w e f) : PE X e (tE X E p w f) := by
  obtain ⟨t, pt, rt⟩ := h.ex
  exact ⟨fun pins s σ H Q I ⟨O, W, ρ, st, hw⟩ => pt.run pins s σ H Q I (rt O W σ H ρ Q st hw)⟩
theorem TV.pt {X : Cx} {E : XK} {p : Bool} {e : Expr} {f : BS} (h : TV X E p e f) : PT X e (tT X E p f) := by
  obtain ⟨t, pt, rt⟩ := h.ex
  exact ⟨fun pins s σ H Q I ⟨O, W, ρ, st, hw⟩ => pt.run pins s σ H Q I (rt O W σ H ρ Q st hw)⟩
theorem GV.pg {X : Cx} {is : List Nat} {tg : Expr} {f : D → Option (List (Nat × D))} (h : GV X is tg f) : PG X tg (tGV X is f) := by
  obtain ⟨g, pg, rg⟩ := h.ex
  exact ⟨fun pins s σ H v u Q I r ⟨O, d, as, rd, ef, hw⟩ => pg.run pins s σ H v u Q I r (rg O H σ v d as Q rd ef hw)⟩
structure TsV (X : Cx) (E : XK) (p : Bool) (es : List Expr) (f : BS) : Prop where
  run : PTs X es (tT X E p f)
def bYes : BS := fun ρ => .ok (true, ρ)
theorem tsv_nil {X : Cx} {E : XK} : TsV X E true [] bYes := ⟨⟨fun pins s σ H Q I ⟨O, W, ρ, st, hw⟩ => pts_nil.run pins s σ H Q I (hw H (Post.refl st))⟩⟩
theorem tsv_one {X : Cx} {E : XK} {p : Bool} {c : Expr} {f : BS} (h : TV X E p c f) : TsV X E p [c] f := ⟨pts_one h.pt⟩
def wipeB (ρ : List B) : List Nat → List B
  | [] => ρ
  | v :: vs => (wipeB ρ vs).set v .un
def restB (ρ1 ρ : List B) : List Nat → List B
  | [] => ρ
  | v :: vs => (restB ρ1 ρ vs).set v (ρ1.getD v .un)
def noOw (ρ : List B) (vs : List Nat) : Bool := vs.all fun i => !(isOw ρ[i]?)
def noX {α : Type} : Rs α → Rs α
  | .ok a => .ok a
  | _ => .bad
@[simp] theorem noX_ok {α : Type} (a : α) : noX (.ok a) = .ok a := rfl
theorem Wr.noX {α : Type} {r : Rs α} {k : α → Prop} {e e' : Str → D → Prop} (h : Wr (noX r) k e) : Wr r k e' := by
  cases r with
  | ok a => exact h
  | exc c x => exact h.elim
  | bad => exact h
def lcGo (vs : List Nat) (tg : D → Option (List (Nat × D))) (tt : BS) (te : ES) : List D → List B → List D → Rs (List D × List B)
  | [], ρ, acc => .ok (acc, ρ)
  | d :: ds, ρ, acc => match tg d with
    | none => .bad
    | some as => (noX (tt (putB ρ as))).bind fun x => match x.1 with
      | false => lcGo vs tg tt te ds (wipeB x.2 vs) acc
      | true => (noX (te x.2)).bind fun y => if acc.length < sizeLine then lcGo vs tg tt te ds (wipeB y.2 vs) (acc ++ [y.1]) else .bad
def oLc (vs : List Nat) (it : AS) (tg : D → Option (List (Nat × D))) (tt : BS) (te : ES) : AS := fun ρ => (it ρ).bind fun x =>
  if noOw x.2 vs = true then (lcGo vs tg tt te x.1 (wipeB x.2 vs) []).bind fun y => .ok (y.1, restB x.2 y.2 vs) else .bad
theorem wipeB_length (ρ : List B) : ∀ vs, (wipeB ρ vs).length = ρ.length
  | [] => rfl
  | v :: vs => by unfold wipeB; rw [List.length_set, wipeB_length ρ vs]
theorem restB_length (ρ1 ρ : List B) : ∀ vs, (restB ρ1 ρ vs).length = ρ.length
  | [] => rfl
  | v :: vs => by unfold restB; rw [List.length_set, restB_length ρ1 ρ vs]
theorem wipeB_in {ρ : List B} {i : Nat} : ∀ {vs : List Nat} {b : B}, i ∈ vs → (wipeB ρ vs)[i]? = some b → b = .un
  | [], b, h, _ => nomatch h
  | v :: vs, b, h, e => by
    unfold wipeB at e
    rcases set_some e with ⟨_, e2⟩ | ⟨n, e2⟩
    · exact e2.symm
    · rcases List.mem_cons.mp h with h | h
      · exact absurd h.symm n
      · exact wipeB_in h e2
theorem wipeB_out {ρ : List B} {i : Nat} : ∀ {vs : List Nat}, i ∉ vs → (wipeB ρ vs)[i]? = ρ[i]?
  | [], _ => rfl
  | v :: vs, h => by
    unfold wipeB
    rw [List.getElem?_set_ne (fun e => h (by rw [e]; exact List.mem_cons_self)), wipeB_out fun z => h (List.mem_cons_of_mem _ z)]
theorem restB_out {ρ1 ρ : List B} {i : Nat} : ∀ {vs : List Nat}, i ∉ vs → (restB ρ1 ρ vs)[i]? = ρ[i]?
  | [], _ => rfl
  | v :: vs, h => by
    unfold restB
    rw [List.getElem?_set_ne (fun e => h (by rw [e]; exact List.mem_cons_self)), restB_out fun z => h (List.mem_cons_of_mem _ z)]
theorem restB_in {ρ1 ρ : List B} {i : Nat} (hl : ρ.length = ρ1.length) : ∀ {vs : List Nat}, i ∈ vs → (restB ρ1 ρ vs)[i]? = ρ1[i]?
  | [], h => nomatch h
  | v :: vs, h => by
    unfold restB
    by_cases e : v = i
    · subst e
      by_cases hv : v < ρ1.length
      · rw [List.getElem?_set_self (by rw [restB_length, hl]; exact hv), List.getD_eq_getElem?_getD, List.getElem?_eq_getElem hv]
        rfl
      · rw [List.getElem?_eq_none (by rw [List.length_set, restB_length, hl]; omega), List.getElem?_eq_none (by omega)]
    · rw [List.getElem?_set_ne e]
      rcases List.mem_cons.mp h with h | h
      · exact absurd h.symm e
      · exact restB_in hl h
theorem wipe_in {σ : St} {i : Nat} {x : Option V} : ∀ {vs : List Nat}, i ∈ vs → (wipe σ vs)[i]? = some x → x = none
  | [], h, _ => nomatch h
  | v :: vs, h, e => by
    unfold wipe at e
    rw [List.getElem?_set] at e
    split at e
    · split at e
      · exact (Option.some.inj e).symm
      · cases e
    · rename_i n
      rcases List.mem_cons.mp h with h | h
      · exact absurd h.symm n
      · exact wipe_in h e
theorem putS_out {i : Nat} : ∀ {vs : List (Nat × V)} {σ : St}, i ∉ vs.map (·.1) → (putS σ vs)[i]? = σ[i]?
  | [], _, _ => rfl
  | (j, v) :: r, σ, h => by
    have e : putS σ ((j, v) :: r) = putS (σ.set j (some v)) r := rfl
    rw [e, putS_out (fun z => h (by rw [List.map_cons]; exact List.mem_cons_of_mem _ z)), List.getElem?_set_ne]
    intro z
    exact h (by rw [List.map_cons, ← z]; exact List.mem_cons_self)
theorem putB_out {i : Nat} : ∀ {vs : List (Nat × D)} {ρ : List B}, i ∉ vs.map (·.1) → (putB ρ vs)[i]? = ρ[i]?
  | [], _, _ => rfl
  | (j, v) :: r, ρ, h => by
    have e : putB ρ ((j, v) :: r) = putB (ρ.set j (.va v)) r := rfl
    rw [e, putB_out (fun z => h (by rw [List.map_cons]; exact List.mem_cons_of_mem _ z)), List.getElem?_set_ne]
    intro z
    exact h (by rw [List.map_cons, ← z]; exact List.mem_cons_self)
theorem putS_length : ∀ (vs : List (Nat × V)) (σ : St), (putS σ vs).length = σ.length
  | [], _ => rfl
  | (j, v) :: r, σ => by
    show (putS (σ.set j (some v)) r).length = _
    rw [putS_length r, List.length_set]
theorem putB_length : ∀ (vs : List (Nat × D)) (ρ : List B), (putB ρ vs).length = ρ.length
  | [], _ => rfl
  | (j, v) :: r, ρ => by
    show (putB (ρ.set j (.va v)) r).length = _
    rw [putB_length r, List.length_set]
theorem puts_slots {K : PySem.W.Frag} {O : Addr → Prop} {H : Hp} : ∀ {vs : List (Nat × V)} {as : List (Nat × D)}, Puts K O H vs as → as.map (·.1) = vs.map (·.1)
  | _, _, .nil => rfl
  | _, _, .cons r t => by rw [List.map_cons, List.map_cons, puts_slots t]
theorem ext_get {α : Type} {a b : List α} (h : ∀ i : Nat, a[i]? = b[i]?) : a = b := List.ext_getElem? h
theorem wipe_put {σ : St} {vs : List Nat} {us : List (Nat × V)} (h : ∀ i ∈ us.map (·.1), i ∈ vs) : wipe (putS (wipe σ vs) us) vs = wipe σ vs := by
  refine ext_get fun i => ?_
  by_cases hi : i ∈ vs
  · have hl : (wipe (putS (wipe σ vs) us) vs).length = (wipe σ vs).length := by rw [wipe_length, putS_length]
    by_cases hlt : i < (wipe σ vs).length
    · obtain ⟨x, hx⟩ : ∃ x, (wipe (putS (wipe σ vs) us) vs)[i]? = some x := ⟨_, List.getElem?_eq_getElem (by rw [hl]; exact hlt)⟩
      obtain ⟨y, hy⟩ : ∃ y, (wipe σ vs)[i]? = some y := ⟨_, List.getElem?_eq_getElem hlt⟩
      rw [hx, hy, wipe_in hi hx, wipe_in hi hy]
    · rw [List.getElem?_eq_none (by omega), List.getElem?_eq_none (by omega)]
  · rw [wipe_out hi, putS_out fun z => hi (h i z)]
theorem wipeB_put {ρ : List B} {vs : List Nat} {us : List (Nat × D)} (h : ∀ i ∈ us.map (·.1), i ∈ vs) : wipeB (putB (wipeB ρ vs) us) vs = wipeB ρ vs := by
  refine ext_get fun i => ?_
  by_cases hi : i ∈ vs
  · have hl : (wipeB (putB (wipeB ρ vs) us) vs).length = (wipeB ρ vs).length := by rw [wipeB_length, putB_length]
    by_cases hlt : i < (wipeB ρ vs).length
    · obtain ⟨x, hx⟩ : ∃ x, (wipeB (putB (wipeB ρ vs) us) vs)[i]? = some x := ⟨_, List.getElem?_eq_getElem (by rw [hl]; exact hlt)⟩
      obtain ⟨y, hy⟩ : ∃ y, (wipeB ρ vs)[i]? = some y := ⟨_, List.getElem?_eq_getElem hlt⟩
      rw [hx, hy, wipeB_in hi hx, wipeB_in hi hy]
    · rw [List.getElem?_eq_none (by omega), List.getElem?_eq_none (by omega)]
  · rw [wipeB_out hi, putB_out fun z => hi (h i z)]
section
variable {K : PySem.W.Frag} {O W : Addr → Prop} {σ σ' : St} {H H' : Hp} {ρ ρ' : List B} {vs : List Nat}
theorem StR.wipe (s : StR K O W σ H ρ) : StR K O W (wipe σ vs) H (wipeB ρ vs) where
  len := by rw [wipe_length, wipeB_length]; exact s.len
  slot := fun i b e => by
    by_cases hi : i ∈ vs
    · rw [wipeB_in hi e]; exact trivial
    · rw [wipeB_out hi] at e
      rw [wipe_out hi]
      exact s.slot i b e
  apart := fun i j p h1 h2 h3 h4 => by
    have out : ∀ k, isOw (wipeB ρ vs)[k]? = true → k ∉ vs ∧ isOw ρ[k]? = true := fun k h => by
      by_cases hk : k ∈ vs
      · cases e : (wipeB ρ vs)[k]? with
        | none => rw [e] at h; cases h
        | some b => rw [e, wipeB_in hk e] at h; cases h
      · rw [wipeB_out hk] at h; exact ⟨hk, h⟩
    obtain ⟨n1, o1⟩ := out i h1
    obtain ⟨n2, o2⟩ := out j h2
    rw [wipe_out n1] at h3
    rw [wipe_out n2] at h4
    exact s.apart i j p o1 o2 h3 h4
  sub := s.sub
  al := s.al
theorem StR.rest {ρ1 : List B} (hl1 : σ.length = ρ1.length) (hv : ∀ (i : Nat), i ∈ vs → ∀ d, ρ1[i]? = some (.va d) → ∃ v, σ[i]? = some (some v) ∧ Rep K O H' v d) (no : noOw ρ1 vs = true) (s : StR K O W (L2.wipe σ vs) H' ρ) : StR K O W σ H' (restB ρ1 ρ vs) := by
  have hl : ρ.length = ρ1.length := by rw [← s.len, wipe_length, hl1]
  have nn : ∀ i ∈ vs, isOw ρ1[i]? = false := fun i hi => by
    have := List.all_eq_true.mp no i hi
    simpa using this
  have out : ∀ k, isOw (restB ρ1 ρ vs)[k]? = true → k ∉ vs ∧ isOw ρ[k]? = true := fun k h => by
    by_cases hk : k ∈ vs
    · rw [restB_in hl hk, nn k hk] at h; cases h
    · rw [restB_out hk] at h; exact ⟨hk, h⟩
  refine ⟨by rw [restB_length, hl]; exact hl1, fun i b eb => ?_, fun i j p h1 h2 h3 h4 => ?_, s.sub, s.al⟩
  · by_cases hi : i ∈ vs
    · rw [restB_in hl hi] at eb
      cases b with
      | un => exact trivial
      | va d => exact hv i hi d eb
      | ow k ds =>
        have := nn i hi
        rw [eb] at this
        cases this
    · rw [restB_out hi] at eb
      have q := s.slot i b eb
      rw [wipe_out hi] at q
      exact q
  · obtain ⟨n1, o1⟩ := out i h1
    obtain ⟨n2, o2⟩ := out j h2
    refine s.apart i j p o1 o2 ?_ ?_
    · rw [wipe_out n1]; exact h3
    · rw [wipe_out n2]; exact h4
theorem StR.lessO {O' : Addr → Prop} (s : StR K O' W σ H ρ) (h : ∀ a, O a → O' a) (hw : ∀ a, W a → O a) : StR K O W σ H ρ where
  len := s.len
  slot := fun i b e => by
    have q := s.slot i b e
    cases b with
    | un => exact trivial
    | va d =>
      obtain ⟨v, h1, h2⟩ := q
      exact ⟨v, h1, h2.less h⟩
    | ow k ds =>
      obtain ⟨p, us, h1, h2, h3, h4⟩ := q
      exact ⟨p, us, h1, h2, h3, h4.less h⟩
  apart := s.apart
  sub := hw
  al := fun a z => s.al a (h a z)
theorem StR.moreW {W' : Addr → Prop} (s : StR K O W σ H ρ) (h : ∀ a, W a → W' a) (hw : ∀ a, W' a → O a) : StR K O W' σ H ρ where
  len := s.len
  slot := fun i b e => by
    have q := s.slot i b e
    cases b with
    | un => exact trivial
    | va d => exact q
    | ow k ds =>
      obtain ⟨p, us, h1, h2, h3, h4⟩ := q
      exact ⟨p, us, h1, h _ h2, h3, h4⟩
  apart := s.apart
  sub := hw
  al := s.al
theorem StR.growO {a : Addr} {o : HO} (s : StR K O W σ H ρ) (n : H a = none) : StR K (fun b => O b ∨ b = a) W σ (upd H a o) ρ := by
  have sm : Same H (upd H a o) := same_new n
  refine ⟨s.len, fun i b e => ?_, s.apart, fun b z => .inl (s.sub b z), fun b z => ?_⟩
  · have q := s.slot i b e
    cases b with
    | un => exact trivial
    | va d =>
      obtain ⟨v, h1, h2⟩ := q
      exact ⟨v, h1, (h2.shun fun b z => z.elim .inl fun e => .inr (by rw [e]; exact n)).same sm⟩
    | ow k ds =>
      obtain ⟨p, vs, h1, h2, h3, h4⟩ := q
      exact ⟨p, vs, h1, h2, sm p _ h3, (h4.shun fun b z => z.elim .inl fun e => .inr (by rw [e]; exact n)).same sm⟩
  · rcases z with z | z
    · cases q : H b with
      | none => exact absurd q (s.al b z)
      | some u => rw [sm b u q]; exact fun z => nomatch z
    · rw [z, upd_same]; exact fun z => nomatch z
theorem StR.side {a : Addr} {o : HO} (s : StR K (fun b => O b ∨ b = a) W σ H ρ) (nw : ¬ W a) : StR K (fun b => O b ∨ b = a) W σ (upd H a o) ρ where
  len := s.len
  slot := fun i b e => by
    have q := s.slot i b e
    have ex : Ext (fun b => b = a) H (upd H a o) := fun c u n h => by rw [upd_ne n]; exact h
    cases b with
    | un => exact trivial
    | va d =>
      obtain ⟨v, h1, h2⟩ := q
      exact ⟨v, h1, h2.ext ex fun b z => .inr z⟩
    | ow k ds =>
      obtain ⟨p, us, h1, h2, h3, h4⟩ := q
      refine ⟨p, us, h1, h2, ?_, h4.ext ex fun b z => .inr z⟩
      rw [upd_ne (fun (z : p = a) => nw (z ▸ h2))]
      exact h3
  apart := s.apart
  sub := s.sub
  al := fun b z => by
    by_cases e : b = a
    · rw [e, upd_same]; exact fun z => nomatch z
    · rw [upd_ne e]; exact s.al b z
end
structure LcI (X : Cx) (vs : List Nat) (tg : D → Option (List (Nat × D))) (tt : BS) (te : ES) (ds : List D) (O W : Addr → Prop) (σ : St) (H1 : Hp) (ρ1 : List B) (Dd : Addr) (pp : Bool) (fin : List D × List B → Prop) (exn : Str → D → Prop) (i : Nat) (H : Hp) (ρ : List B) (accV : List V) (acc : List D) : Prop where
  st : StR X.K (fun a => O a ∨ a = Dd) W (L2.wipe σ vs) H ρ
  at_ : H Dd = some (.lst accV)
  rs : Reps X.K (fun a => O a ∨ a = Dd) H accV acc
  kd : Kd (wipeB ρ1 vs) ρ
  pure_ : pp = true → ρ = wipeB ρ1 vs ∧ Same H1 H
  ext : Ext W H1 H
  rest : Wr (lcGo vs tg tt te (ds.drop i) ρ acc) fin exn
theorem Kd.put {ρ : List B} {vs : List Nat} {us : List (Nat × D)} (h : ∀ i ∈ us.map (·.1), i ∈ vs) {ρ0 : List B} (k : Kd (wipeB ρ0 vs) ρ) : Kd (wipeB ρ0 vs) (wipeB (putB ρ us) vs) := fun i => by
  by_cases hi : i ∈ vs
  · have un : ∀ (r : List B), kindB (wipeB r vs)[i]? = none := fun r => by
      cases e : (wipeB r vs)[i]? with
      | none => rfl
      | some b => rw [wipeB_in hi e]; rfl
    rw [un, un]
  · rw [wipeB_out hi, putB_out fun z => hi (h i z)]
    exact k i
theorem Kd.wipe' {ρ ρ' ρ0 : List B} {vs : List Nat} (k : Kd ρ ρ') (k0 : Kd (wipeB ρ0 vs) (wipeB ρ vs)) : Kd (wipeB ρ0 vs) (wipeB ρ' vs) := fun i => by
  by_cases hi : i ∈ vs
  · have un : ∀ (r : List B), kindB (wipeB r vs)[i]? = none := fun r => by
      cases e : (wipeB r vs)[i]? with
      | none => rfl
      | some b => rw [wipeB_in hi e]; rfl
    rw [un, un]
  · have := k0 i
    rw [wipeB_out hi] at this
    rw [wipeB_out hi, k i]
    exact this
theorem same_side {H1 H : Hp} {Dd : Addr} {o : HO} (n : H1 Dd = none) (s : Same H1 H) : Same H1 (upd H Dd o) := fun b u h => by
  rw [upd_ne (ne_of_none h n)]
  exact s b u h
theorem ext_side {W : Addr → Prop} {H1 H : Hp} {Dd : Addr} {o : HO} (n : H1 Dd = none) (s : Ext W H1 H) : Ext W H1 (upd H Dd o) := fun b u w h => by
  rw [upd_ne (ne_of_none h n)]
  exact s b u w h
theorem lc_rd {X : Cx} {p pt pe w : Bool} {is vs : List Nat} {wi : TI} {it : AS} {tg : D → Option (List (Nat × D))} {tt : BS} {te : ES} {E : XK} {ee : XK}
    (ri : ∀ (O W : Addr → Prop) (σ : St) (H : Hp) (ρ : List B) (R : It → Hp → Prop), StR X.K O W σ H ρ →
      Wr (it ρ) (fun r => ∀ J G H', Post p X.K O W σ H H' ρ r.2 → ItOk X.K w J r.1 G → G O H' → R J H') (EX X E O W H) → wi σ H R)
    (hw : (!w || (pt && pe)) = true) (hv : ∀ i ∈ is, i ∈ vs)
    {O W : Addr → Prop} {σ : St} {H : Hp} {ρ : List B} {Q : VK} (s : StR X.K O W σ H ρ)
    (h : Wr (oLc vs it tg tt te ρ) (fun r => ∀ q us H', H q = none → Post (p && (pt && pe)) X.K O W σ H H' ρ r.2 → StR X.K (fun a => O a ∨ a = q) (fun a => W a ∨ a = q) σ H' r.2 → H' q = some (.lst us) →
      Reps X.K (fun a => O a ∨ a = q) H' us r.1 → Q (.ref q) H') (EX X E O W H)) :
    tLc wi (tGV X is tg) (tT X E0 pt tt) (tE X E0 pe false te) vs σ H Q := by
  unfold oLc at h
  refine ri O W σ H ρ _ s (h.bind.mono (fun x hx J G H1 po ok gg => ?_) fun _ _ z => z)
  obtain ⟨ds, ρ1⟩ := x
  by_cases hno : noOw ρ1 vs = true
  case neg => rw [if_neg hno] at hx; exact hx.elim
  rw [if_pos hno] at hx
  intro Dd nD
  have s1 : StR X.K O W σ H1 ρ1 := po.st
  have nO : ¬ O Dd := fun z => s1.al Dd z nD
  have nW : ¬ W Dd := fun z => nO (s1.sub Dd z)
  let fin : List D × List B → Prop := fun y => ∀ q us H', H q = none → Post (p && (pt && pe)) X.K O W σ H H' ρ (restB ρ1 y.2 vs) → StR X.K (fun a => O a ∨ a = q) (fun a => W a ∨ a = q) σ H' (restB ρ1 y.2 vs) → H' q = some (.lst us) → Reps X.K (fun a => O a ∨ a = q) H' us y.1 → Q (.ref q) H'
  have hx' : Wr (lcGo vs tg tt te ds (wipeB ρ1 vs) []) fin (fun _ _ => True) := by
    refine (Wr.bind hx).mono (fun y hy => hy) fun _ _ _ => trivial
  refine ⟨fun i m H' => m = ds.length - i ∧ i ≤ ds.length ∧ ∃ ρ' accV acc, LcI X vs tg tt te ds O W σ H1 ρ1 Dd (pt && pe) fin (fun _ _ => True) i H' ρ' accV acc, ⟨ds.length, rfl, Nat.zero_le _, wipeB ρ1 vs, [], [], ?_⟩, ?_⟩
  · exact ⟨(s1.growO nD).wipe, upd_same, .nil, fun _ => rfl, fun _ => ⟨rfl, same_new nD⟩, Ext.of_same (same_new nD), hx'⟩
  · rintro i m H2 ⟨rfl, hi, ρ2, accV, acc, L⟩
    have gg2 : G (fun a => O a ∨ a = Dd) H2 := by
      cases w with
      | false => exact ok.keep O W H1 _ H2 gg (fun a z => .inr ⟨rfl, s1.sub a z⟩) L.ext fun a z => z.imp id fun e => by rw [e]; exact nD
      | true =>
        have pp : (pt && pe) = true := hw
        exact ok.keep O (fun _ => False) H1 _ H2 gg (fun a z => z.elim) (Ext.of_same (L.pure_ pp).2) fun a z => z.imp id fun e => by rw [e]; exact nD
    by_cases hlt : i < ds.length
    · have ed : ds.drop i = ds[i] :: ds.drop (i + 1) := List.drop_eq_getElem_cons hlt
      have hr := L.rest
      rw [ed] at hr
      unfold lcGo at hr
      refine .inr ⟨ok.goes _ i H2 hlt gg2, fun H' => i + 1 ≤ ds.length ∧ ∃ ρ' accV acc, LcI X vs tg tt te ds O W σ H1 ρ1 Dd (pt && pe) fin (fun _ _ => True) (i + 1) H' ρ' accV acc, fun H' n => ⟨ds.length - (i + 1), by omega, rfl, n.1, n.2⟩, fun v H3 y => ?_⟩
      obtain ⟨sm, rx⟩ := ok.yld _ i H2 v H3 ds[i] L.st.al gg2 (List.getElem?_eq_getElem hlt) y
      have st3 : StR X.K (fun a => O a ∨ a = Dd) W (L2.wipe σ vs) H3 ρ2 := L.st.same sm
      cases ef : tg ds[i] with
      | none => rw [ef] at hr; exact hr.elim
      | some as =>
        simp only [ef] at hr
        refine ⟨_, ds[i], as, rx, ef, fun us pu iu => ?_⟩
        have hus : ∀ j ∈ us.map (·.1), j ∈ vs := fun j hj => hv j (iu ▸ hj)
        have has : ∀ j ∈ as.map (·.1), j ∈ vs := fun j hj => hus j (by rw [← puts_slots pu]; exact hj)
        refine ⟨wipe_put hus, ?_⟩
        have st4 := StR.puts pu st3
        refine ⟨_, W, putB ρ2 as, st4, (Wr.noX (Wr.bind hr)).mono (fun x hx H4 po4 => ?_) fun _ _ z => z⟩
        obtain ⟨k, ρ4⟩ := x
        have ext4 : Ext W H1 H4 := (L.ext.trans (Ext.of_same sm)).trans po4.ext
        have kd4 : Kd (wipeB ρ1 vs) (wipeB ρ4 vs) := Kd.wipe' po4.kd (L.kd.put has)
        have nDd : ∀ {H5 : Hp}, Ext W H2 H5 → H5 Dd = some (.lst accV) := fun e => e Dd _ nW L.at_
        cases k with
        | false =>
          refine iteF ⟨hlt, wipeB ρ4 vs, accV, acc, ?_⟩
          have wst := po4.st.wipe (vs := vs)
          rw [wipe_put hus] at wst
          refine ⟨wst, nDd ((Ext.of_same sm).trans po4.ext), (L.rs.same sm).ext po4.ext po4.st.sub, kd4, fun pp => ?_, ext4, hx⟩
          obtain ⟨q1, q2⟩ := Bool.and_eq_true_iff.mp pp
          obtain ⟨sm4, e4⟩ := po4.pure_ q1
          obtain ⟨e0, sm0⟩ := L.pure_ pp
          refine ⟨?_, (sm0.trans sm).trans sm4⟩
          have e4 : ρ4 = putB ρ2 as := e4
          rw [e4, e0, wipeB_put has]
        | true =>
          refine iteT ⟨_, W, ρ4, po4.st, (Wr.noX (Wr.bind hx)).mono (fun y hy yv H5 po5 ry => ?_) fun _ _ z => z⟩
          obtain ⟨dy, ρ5⟩ := y
          have at5 : H5 Dd = some (.lst accV) := nDd (((Ext.of_same sm).trans po4.ext).trans po5.ext)
          have rs5 : Reps X.K (fun a => O a ∨ a = Dd) H5 accV acc := ((L.rs.same sm).ext po4.ext po4.st.sub).ext po5.ext po5.st.sub
          by_cases hz : acc.length < sizeLine
          case neg =>
            have hy : Wr (if acc.length < sizeLine then lcGo vs tg tt te (ds.drop (i + 1)) (wipeB ρ5 vs) (acc ++ [dy]) else .bad) fin (fun _ _ => True) := hy
            rw [if_neg hz] at hy
            exact hy.elim
          have hy : Wr (lcGo vs tg tt te (ds.drop (i + 1)) (wipeB ρ5 vs) (acc ++ [dy])) fin (fun _ _ => True) := by
            have hy : Wr (if acc.length < sizeLine then lcGo vs tg tt te (ds.drop (i + 1)) (wipeB ρ5 vs) (acc ++ [dy]) else .bad) fin (fun _ _ => True) := hy
            rw [if_pos hz] at hy
            exact hy
          refine ⟨accV, at5, by rw [rs5.length]; exact hz, hlt, wipeB ρ5 vs, accV ++ [yv], acc ++ [dy], ?_⟩
          have wst := po5.st.wipe (vs := vs)
          rw [wipe_put hus] at wst
          have ex : Ext (fun b => b = Dd) H5 (upd H5 Dd (.lst (accV ++ [yv]))) := fun c u n h => by rw [upd_ne n]; exact h
          refine ⟨wst.side nW, upd_same, (rs5.append (Reps.one ry.strict)).ext ex fun a z => .inr z, Kd.wipe' po5.kd kd4, fun pp => ?_, ext_side nD (ext4.trans po5.ext), hy⟩
          obtain ⟨q1, q2⟩ := Bool.and_eq_true_iff.mp pp
          obtain ⟨sm4, e4⟩ := po4.pure_ q1
          obtain ⟨sm5, e5⟩ := po5.pure_ q2
          obtain ⟨e0, sm0⟩ := L.pure_ pp
          have e4 : ρ4 = putB ρ2 as := e4
          have e5 : ρ5 = ρ4 := e5
          exact ⟨by rw [e5, e4, e0, wipeB_put has], same_side nD (((sm0.trans sm).trans sm4).trans sm5)⟩
    · have e : i = ds.length := by omega
      subst e
      have hr := L.rest
      rw [List.drop_length] at hr
      refine .inl ⟨ok.stops _ H2 gg2, ?_⟩
      have st' : StR X.K O W (L2.wipe σ vs) H2 ρ2 := L.st.lessO (fun a z => .inl z) s1.sub
      have fin1 : StR X.K O W σ H2 (restB ρ1 ρ2 vs) := StR.rest s1.len (fun i hi d e => by
        obtain ⟨v, h1, h2⟩ := s1.slot i _ e
        exact ⟨v, h1, h2.ext L.ext s1.sub⟩) hno st'
      have fin2 : StR X.K (fun a => O a ∨ a = Dd) W σ H2 (restB ρ1 ρ2 vs) := StR.rest s1.len (fun i hi d e => by
        obtain ⟨v, h1, h2⟩ := s1.slot i _ e
        exact ⟨v, h1, (h2.shun (O' := fun a => O a ∨ a = Dd) fun b z => z.imp id fun e => by rw [e]; exact nD).ext L.ext fun a z => .inl (s1.sub a z)⟩) hno L.st
      have hl : ρ2.length = ρ1.length := by rw [← L.st.len, wipe_length, s1.len]
      have kd : Kd ρ1 (restB ρ1 ρ2 vs) := fun i => by
        by_cases hi : i ∈ vs
        · rw [restB_in hl hi]
        · have := L.kd i
          rw [wipeB_out hi] at this
          rw [restB_out hi, this]
      have po2 : Post (pt && pe) X.K O W σ H1 H2 ρ1 (restB ρ1 ρ2 vs) := ⟨fin1, L.ext, kd, fun pp => by
        obtain ⟨e0, sm0⟩ := L.pure_ pp
        refine ⟨sm0, ext_get fun i => ?_⟩
        by_cases hi : i ∈ vs
        · rw [restB_in hl hi]
        · rw [restB_out hi, e0, wipeB_out hi]⟩
      exact hr Dd accV H2 (po.free' nD) (po.trans po2) (fin2.moreW (fun a z => .inl z) fun a z => z.imp (s1.sub a) id) L.at_ L.rs
section
variable {X : Cx} {E : XK} {p pt pe w : Bool} {is vs : List Nat} {elt tgt iter : Expr} {ifs : List Expr} {scope : Scope} {own : List (Str × Nat)} {it : AS} {tg : D → Option (List (Nat × D))} {tt : BS} {te : ES} {pos spos py : Pos}
theorem eo_lc (own : List (Str × Nat)) (hc : X.calm = true) (hN : X.N.Nodup) (hi : IV X E p w tgt iter it) (ok : BlkOk X.N X.env.scope scope own) (hvs : own.map (·.2) = vs)
    (hg : ∀ (s : Shared) (H : Hp) (C : Addr) (cl : List (Str × Addr)) (fp : List Addr), GV (X.blk s H scope (compEnvC scope cl C X.env) fp) is tgt tg)
    (ht : ∀ (s : Shared) (H : Hp) (C : Addr) (cl : List (Str × Addr)) (fp : List Addr), TsV (X.blk s H scope (compEnvC scope cl C X.env) fp) E0 pt ifs tt)
    (he : ∀ (s : Shared) (H : Hp) (C : Addr) (cl : List (Str × Addr)) (fp : List Addr), EV (X.blk s H scope (compEnvC scope cl C X.env) fp) E0 pe false elt te)
    (hw : (!w || (pt && pe)) = true := by rfl) (hv : ∀ i ∈ is, i ∈ vs := by decide) (hs : ∀ x, foldedSetIterable iter X.env x = pure x := by intro _; rfl) :
    EO X E (p && (pt && pe)) (.ListComp elt [⟨tgt, iter, ifs, 0⟩] scope pos) (oLc vs it tg tt te) := by
  obtain ⟨wi, pi, ri⟩ := hi.ex
  subst hvs
  refine ⟨_, pe_lc hc hN pi ok (g := tGV X is tg) (tt := tT X E0 pt tt) (te := tE X E0 pe false te) (fun s H C cl fp => (hg s H C cl fp).pg) (fun s H C cl fp => (ht s H C cl fp).run) (fun s H C cl fp => (he s H C cl fp).pe) hs, fun O W σ H ρ Q s h => ?_⟩
  exact lc_rd (ee := E) ri hw hv s h
end
end RT
namespace RT
open PySem PySem.Spec PyProof.Rows L2
section
variable {X : Cx} {E : XK} {p q pt pe w : Bool} {is vs : List Nat} {e elt tgt iter : Expr} {ifs : List Expr} {scope : Scope} {own : List (Str × Nat)} {it ar : AS} {fe : ES} {tg : D → Option (List (Nat × D))} {tt : BS} {te : ES} {pos pos' spos py : Pos}
theorem ss_setO (i : Nat) {x : Str} (h : EO X E p e ar) (hN : X.N.Nodup) (hi : X.N[i]? = some x := by rfl) (hx : Loc X.env.scope x := by first | exact Or.inl rfl | exact Or.inr rfl) (hs : swapsWith e (some (.Name x pos')) pos.line X.env = pure false := by rfl)
    (hf : X.fn x = true ∨ X.env.scope.names.lookup x = some .local := by first | exact .inl rfl | exact .inr rfl) : SS X E (.Assign [.Name x pos'] e pos) (sSetO i ar) := by
  obtain ⟨t, pt, rt⟩ := h.ex
  refine ⟨_, ps_set hN hi hx pt hs hf, fun b O W De σ H ρ s h => ?_⟩
  refine rt O W σ H ρ _ s.st ((FlOk.rs s h).mono (fun x hx q us H' n po st hq r => ?_) fun _ _ z => z)
  obtain ⟨s', t'⟩ := s.putO (i := i) n po st hq r
  exact hx _ _ _ H' s' t'
theorem lc_ss {wi : TI} (i : Nat) {y : Str}
    (ri : ∀ (O W : Addr → Prop) (σ : St) (H : Hp) (ρ : List B) (R : It → Hp → Prop), StR X.K O W σ H ρ →
      Wr (it ρ) (fun r => ∀ J G H', Post p X.K O W σ H H' ρ r.2 → ItOk X.K w J r.1 G → G O H' → R J H') (EX X E O W H) → wi σ H R)
    (hw : (!w || (pt && pe)) = true) (hv : ∀ i ∈ is, i ∈ vs) {b : Bs} {O W : Addr → Prop} {De : Ends} {σ : St} {H : Hp} {ρ : List B} (s : SI X.K b O W σ H ρ) (h : FlOk X E b O W H De (sSetO i (oLc vs it tg tt te) ρ)) :
    tAsg (tLc wi (tGV X is tg) (tT X E0 pt tt) (tE X E0 pe false te) vs) (gName i) De σ H := by
  refine lc_rd (ee := E) ri hw hv s.st ((FlOk.rs s h).mono (fun x hx q us H' n po st hq r => ?_) fun _ _ z => z)
  obtain ⟨s', t'⟩ := s.putO (i := i) n po st hq r
  exact hx _ _ _ H' s' t'
theorem lc_ssF {wi : TI} (i : Nat) {y : Str}
    (ri : ∀ (O W : Addr → Prop) (σ : St) (H : Hp) (ρ : List B) (R : It → Hp → Prop), StR X.K O W σ H ρ →
      Wr (it ρ) (fun r => ∀ J G H', Post p X.K O W σ H H' ρ r.2 → ItOk X.K w J r.1 G → G O H' → R J H') (EX X E O W H) → wi σ H R)
    (hw : (!w || (pt && pe)) = true) (hv : ∀ i ∈ is, i ∈ vs) {b : Bs} {O W : Addr → Prop} {De : Ends} {σ : St} {H : Hp} {ρ : List B} (s : SI X.K b O W σ H ρ) (h : FlOk X E b O W H De (sSet i (eO (oLc vs it tg tt te)) ρ)) :
    tAsg (tLc wi (tGV X is tg) (tT X E0 pt tt) (tE X E0 pe false te) vs) (gName i) De σ H := by
  refine lc_rd (ee := E) ri hw hv s.st ((FlOk.rs s h).bind.mono (fun x hx q us H' n po st hq r => ?_) fun _ _ z => z)
  exact hx O W _ H' ((s.post po).put (.lst (.inl ⟨.inl hq, fun z => s.st.al q z n⟩) (r.less fun a z => .inl z))) (s.tr po)
theorem ss_setLcO (i : Nat) {y : Str} (own : List (Str × Nat)) (hc : X.calm = true) (hN : X.N.Nodup) (hsw : swapsWith (.ListComp elt [⟨tgt, iter, ifs, 0⟩] scope pos) (some (.Name y py)) spos.line X.env = pure true)
    (hi : IV X E p w tgt iter it) (ok : BlkOk X.N X.env.scope scope own) (hvs : own.map (·.2) = vs)
    (hg : ∀ (s : Shared) (H : Hp) (C : Addr) (cl : List (Str × Addr)) (fp : List Addr), GV (X.blk s H scope (compEnvC scope cl C X.env) fp) is tgt tg)
    (ht : ∀ (s : Shared) (H : Hp) (C : Addr) (cl : List (Str × Addr)) (fp : List Addr), TsV (X.blk s H scope (compEnvC scope cl C X.env) fp) E0 pt ifs tt)
    (he : ∀ (s : Shared) (H : Hp) (C : Addr) (cl : List (Str × Addr)) (fp : List Addr), EV (X.blk s H scope (compEnvC scope cl C X.env) fp) E0 pe false elt te)
    (hyi : X.N[i]? = some y := by rfl) (hyl : X.env.scope.names.lookup y = some .local := by rfl)
    (hw : (!w || (pt && pe)) = true := by rfl) (hv : ∀ i ∈ is, i ∈ vs := by decide) (hs : ∀ x, foldedSetIterable iter X.env x = pure x := by intro _; rfl) :
    SS X E (.Assign [.Name y py] (.ListComp elt [⟨tgt, iter, ifs, 0⟩] scope pos) spos) (sSetO i (oLc vs it tg tt te)) := by
  obtain ⟨wi, pi, ri⟩ := hi.ex
  subst hvs
  refine ⟨_, ps_setLc hc hN hyi hyl hsw pi ok (g := tGV X is tg) (tt := tT X E0 pt tt) (te := tE X E0 pe false te) (fun s H C cl fp => (hg s H C cl fp).pg) (fun s H C cl fp => (ht s H C cl fp).run) (fun s H C cl fp => (he s H C cl fp).pe) hs, fun b O W De σ H ρ s h => ?_⟩
  exact lc_ss (y := y) i ri hw hv s h
theorem ss_setLcF (i : Nat) {y : Str} (own : List (Str × Nat)) (hc : X.calm = true) (hN : X.N.Nodup) (hsw : swapsWith (.ListComp elt [⟨tgt, iter, ifs, 0⟩] scope pos) (some (.Name y py)) spos.line X.env = pure true)
    (hi : IV X E p w tgt iter it) (ok : BlkOk X.N X.env.scope scope own) (hvs : own.map (·.2) = vs)
    (hg : ∀ (s : Shared) (H : Hp) (C : Addr) (cl : List (Str × Addr)) (fp : List Addr), GV (X.blk s H scope (compEnvC scope cl C X.env) fp) is tgt tg)
    (ht : ∀ (s : Shared) (H : Hp) (C : Addr) (cl : List (Str × Addr)) (fp : List Addr), TsV (X.blk s H scope (compEnvC scope cl C X.env) fp) E0 pt ifs tt)
    (he : ∀ (s : Shared) (H : Hp) (C : Addr) (cl : List (Str × Addr)) (fp : List Addr), EV (X.blk s H scope (compEnvC scope cl C X.env) fp) E0 pe false elt te)
    (hyi : X.N[i]? = some y := by rfl) (hyl : X.env.scope.names.lookup y = some .local := by rfl)
    (hw : (!w || (pt && pe)) = true := by rfl) (hv : ∀ i ∈ is, i ∈ vs := by decide) (hs : ∀ x, foldedSetIterable iter X.env x = pure x := by intro _; rfl) :
    SS X E (.Assign [.Name y py] (.ListComp elt [⟨tgt, iter, ifs, 0⟩] scope pos) spos) (sSet i (eO (oLc vs it tg tt te))) := by
  obtain ⟨wi, pi, ri⟩ := hi.ex
  subst hvs
  refine ⟨_, ps_setLc hc hN hyi hyl hsw pi ok (g := tGV X is tg) (tt := tT X E0 pt tt) (te := tE X E0 pe false te) (fun s H C cl fp => (hg s H C cl fp).pg) (fun s H C cl fp => (ht s H C cl fp).run) (fun s H C cl fp => (he s H C cl fp).pe) hs, fun b O W De σ H ρ s h => ?_⟩
  exact lc_ssF (y := y) i ri hw hv s h
theorem StR.wr {K : PySem.W.Frag} {O W : Addr → Prop} {σ : St} {H : Hp} {ρ : List B} {i : Nat} {k : Bool} {ds es : List D} {a : Addr} {us : List V} (s : StR K O W σ H ρ) (e : ρ[i]? = some (.ow k ds)) (ea : σ[i]? = some (some (.ref a))) (r : Reps K O H us es) :
    StR K O W σ (upd H a (.lst us)) (ρ.set i (.ow k es)) ∧ Ext W H (upd H a (.lst us)) ∧ Kd ρ (ρ.set i (.ow k es)) := by
  obtain ⟨p, vs, h1, h2, h3, h4⟩ := s.slot i _ e
  rw [ea] at h1
  cases h1
  have hi : i < ρ.length := (List.getElem?_eq_some_iff.mp e).1
  have ex : Ext (fun b => b = a) H (upd H a (.lst us)) := fun c u n h => by rw [upd_ne n]; exact h
  have oa : ∀ b, b = a → O b := fun b z => by rw [z]; exact s.sub _ h2
  refine ⟨⟨by rw [List.length_set]; exact s.len, fun j c ec => ?_, fun j l q g1 g2 g3 g4 => ?_, s.sub, fun b z => ?_⟩, fun b u w h => ?_, fun j => ?_⟩
  · rcases set_some ec with ⟨e1, e2⟩ | ⟨e1, e2⟩
    · subst e1; subst e2
      exact ⟨a, us, ea, h2, upd_same, r.ext ex oa⟩
    · have q := s.slot j c e2
      cases c with
      | un => exact trivial
      | va d =>
        obtain ⟨v, g1, g2⟩ := q
        exact ⟨v, g1, g2.ext ex oa⟩
      | ow k' ds' =>
        obtain ⟨p', vs', g1, g2, g3, g4⟩ := q
        refine ⟨p', vs', g1, g2, ?_, g4.ext ex oa⟩
        have : p' ≠ a := fun z => by
          subst z
          exact e1 (s.apart i j p' (by rw [e]; rfl) (by rw [e2]; rfl) ea g1)
        rw [upd_ne this]
        exact g3
  · have ow : ∀ l, isOw (ρ.set i (.ow k es))[l]? = true → isOw ρ[l]? = true := fun l h => by
      unfold isOw at h ⊢
      rw [kind_set] at h
      split at h
      · rename_i hh
        rw [← hh.1, e]; rfl
      · exact h
    exact s.apart j l q (ow j g1) (ow l g2) g3 g4
  · by_cases z2 : b = a
    · rw [z2, upd_same]; exact fun z => nomatch z
    · rw [upd_ne z2]; exact s.al b z
  · rw [upd_ne (fun (z : b = a) => w (z ▸ h2))]
    exact h
  · rw [kind_set]
    split
    · rename_i hh
      rw [← hh.1, e]; rfl
    · rfl
def atOw (i : Nat) (ρ : List B) : Rs (Bool × List D) := match ρ[i]? with
  | some (.ow k ds) => .ok (k, ds)
  | _ => .bad
def eApp (i : Nat) (f : ES) : ES := fun ρ => (atOw i ρ).bind fun _ => (f ρ).bind fun x => (atOw i x.2).bind fun y => if y.2.length < sizeLine then .ok (.non, x.2.set i (.ow y.1 (y.2 ++ [x.1]))) else .bad
theorem atOw_ok {i : Nat} {ρ : List B} {k : Bool} {ds : List D} (h : atOw i ρ = .ok (k, ds)) : ρ[i]? = some (.ow k ds) := by
  unfold atOw at h
  cases e : ρ[i]? with
  | none => rw [e] at h; cases h
  | some b =>
    rw [e] at h
    cases b with
    | ow k ds => cases h; rfl
    | _ => cases h
theorem Wr.at {α : Type} {r : Rs α} {k : α → Prop} {e : Str → D → Prop} (h : Wr r k e) (no : ∀ c x, r ≠ .exc c x) : ∃ a, r = .ok a ∧ k a := by
  cases r with
  | ok a => exact ⟨a, rfl, h⟩
  | exc c x => exact absurd rfl (no c x)
  | bad => exact h.elim
theorem atOw_no {i : Nat} {ρ : List B} : ∀ c x, atOw i ρ ≠ .exc c x := fun c x h => by
  unfold atOw at h
  split at h <;> cases h
theorem ty_list {K : PySem.W.Frag} {H : Hp} {a : Addr} {xs : List V} (h : H a = some (.lst xs)) : tyV K "list" (.ref a) H := .inl ⟨rfl, _, SqL.of h⟩
theorem own_at {α : Type} {b : Bool} {O W : Addr → Prop} {σ : St} {H : Hp} {ρ : List B} {i : Nat} {r : Rs α} {k : α → Prop} {ex : Str → D → Prop} (s : StR X.K O W σ H ρ) (h : Wr ((atOw i ρ).bind fun _ => r) k ex) :
    Wr r k ex ∧ ∃ a us, σ[i]? = some (some (.ref a)) ∧ H a = some (.lst us) := by
  obtain ⟨y, ey, hy⟩ := (Wr.bind h).at atOw_no
  obtain ⟨a, us, h1, h2, h3, h4⟩ := s.slot i _ (atOw_ok (k := y.1) (ds := y.2) ey)
  exact ⟨hy, a, us, h1, h3⟩
theorem ev_app (i : Nat) {x : Str} {apos cpos npos : Pos} (ha : EV X E p false e fe) (hN : X.N[i]? = some x := by rfl) (hv : Vis X.env.scope x := by first | exact Or.inl rfl | exact Or.inr (Or.inl rfl) | exact Or.inr (Or.inr rfl)) (hd : (x == ("__debug__" : Str)) = false := by decide)
    (hcd : (x == ("__classdict__" : Str)) = false := by decide)
    (hbase : attributeBase (.Name x npos) "append" X.env (eval (.Name x npos) X.env) = eval (.Name x npos) X.env := by rfl)
    (hfew : ((backTo cpos (starEach (e :: []) X.env)).all (fun x => !x.1) && (backToKw cpos (keywordEach [] X.env)).all (fun x => x.1.isSome)
      && decide ((e :: ([] : List Expr)).length + ([] : List Keyword).length + (if ([] : List Keyword).isEmpty then 0 else 1) < 30)) = true := by rfl)
    (hline : (apos.endLine == cpos.line) = true := by rfl) (hs : starEach (e :: []) X.env = (false, eval e X.env) :: starEach [] X.env := by rfl) (hpl : (backTo cpos (starEach [] X.env)).any (·.1) = false := by rfl) :
    EV X E false w (.Call (.Attribute (.Name x npos) "append" apos) [e] [] cpos) (eApp i fe) := by
  obtain ⟨t, pt, rt⟩ := ha.ex
  refine ⟨_, pe_bm PySem.F.plainAttrs_list PySem.F.slot_list_append PySem.F.type_list_append (fun pins s σ H x xs v us Q I r1 r2 h => mt_append pins s σ H x xs v us Q I r1 r2 h) (pe_var (i := i) hN hv hd hcd) (pa_cons pt pa_nil hs) hbase hfew hline hs hpl, fun O W σ H ρ Q s h => ?_⟩
  obtain ⟨h, a, us0, ea, eh⟩ := own_at (b := true) s h
  refine ⟨.ref a, ea, ty_list eh, ?_⟩
  refine rt O W σ H ρ _ s (h.bind.mono (fun x hx v H1 po r => ?_) fun _ _ z => z)
  obtain ⟨y, ey, hy⟩ := (Wr.bind hx).at atOw_no
  obtain ⟨k, ds⟩ := y
  have e1 := atOw_ok ey
  obtain ⟨a', us, h1, h2, h3, h4⟩ := po.st.slot i _ e1
  rw [ea] at h1
  cases h1
  have hy : Wr (if ds.length < sizeLine then .ok (.non, x.2.set i (.ow k (ds ++ [x.1]))) else .bad) (fun r => ∀ v H', Post false X.K O W σ H H' ρ r.2 → RepW w X.K O H' v r.1 → Q v H') (EX X E O W H) := hy
  by_cases hz : ds.length < sizeLine
  · rw [if_pos hz] at hy
    refine ⟨a, us, v, rfl, rfl, h3, by rw [h4.length]; exact hz, ?_⟩
    obtain ⟨q1, q2, q3⟩ := po.st.wr e1 ea (h4.append (Reps.one r.strict))
    exact hy .non _ ⟨q1, po.ext.trans q2, fun j => (q3 j).trans (po.kd j), fun z => nomatch z⟩ (.inl .non)
  · rw [if_neg hz] at hy
    exact hy.elim
def eExt (i : Nat) (f : AS) : ES := fun ρ => (atOw i ρ).bind fun _ => (f ρ).bind fun x => (atOw i x.2).bind fun y => if y.2.length + x.1.length ≤ sizeLine then .ok (.non, x.2.set i (.ow y.1 (y.2 ++ x.1))) else .bad
theorem ev_ext (i : Nat) {x : Str} {apos cpos npos : Pos} (ha : EO X E p e ar) (hN : X.N[i]? = some x := by rfl) (hv : Vis X.env.scope x := by first | exact Or.inl rfl | exact Or.inr (Or.inl rfl) | exact Or.inr (Or.inr rfl)) (hd : (x == ("__debug__" : Str)) = false := by decide)
    (hcd : (x == ("__classdict__" : Str)) = false := by decide)
    (hbase : attributeBase (.Name x npos) "extend" X.env (eval (.Name x npos) X.env) = eval (.Name x npos) X.env := by rfl)
    (hfew : ((backTo cpos (starEach (e :: []) X.env)).all (fun x => !x.1) && (backToKw cpos (keywordEach [] X.env)).all (fun x => x.1.isSome)
      && decide ((e :: ([] : List Expr)).length + ([] : List Keyword).length + (if ([] : List Keyword).isEmpty then 0 else 1) < 30)) = true := by rfl)
    (hline : (apos.endLine == cpos.line) = true := by rfl) (hs : starEach (e :: []) X.env = (false, eval e X.env) :: starEach [] X.env := by rfl) (hpl : (backTo cpos (starEach [] X.env)).any (·.1) = false := by rfl) :
    EV X E false w (.Call (.Attribute (.Name x npos) "extend" apos) [e] [] cpos) (eExt i ar) := by
  obtain ⟨t, pt, rt⟩ := ha.ex
  refine ⟨_, pe_bm PySem.F.plainAttrs_list PySem.F.slot_list_extend PySem.F.type_list_extend (fun pins s σ H x xs v us Q I r1 r2 h => mt_extend pins s σ H x xs v us Q I r1 r2 h) (pe_var (i := i) hN hv hd hcd) (pa_cons pt pa_nil hs) hbase hfew hline hs hpl, fun O W σ H ρ Q s h => ?_⟩
  obtain ⟨h, a, us0, ea, eh⟩ := own_at (b := true) s h
  refine ⟨.ref a, ea, ty_list eh, ?_⟩
  refine rt O W σ H ρ _ s (h.bind.mono (fun x hx q ws H1 n po st hq r => ?_) fun _ _ z => z)
  obtain ⟨y, ey, hy⟩ := (Wr.bind hx).at atOw_no
  obtain ⟨k, ds⟩ := y
  have e1 := atOw_ok ey
  obtain ⟨a', us, h1, h2, h3, h4⟩ := po.st.slot i _ e1
  rw [ea] at h1
  cases h1
  have hy : Wr (if ds.length + x.1.length ≤ sizeLine then .ok (.non, x.2.set i (.ow k (ds ++ x.1))) else .bad) (fun r => ∀ v H', Post false X.K O W σ H H' ρ r.2 → RepW w X.K O H' v r.1 → Q v H') (EX X E O W H) := hy
  by_cases hz : ds.length + x.1.length ≤ sizeLine
  · rw [if_pos hz] at hy
    refine ⟨a, q, us, ws, rfl, rfl, h3, hq, by rw [h4.length, r.length]; exact hz, ?_⟩
    obtain ⟨q1, q2, q3⟩ := po.st.wr e1 ea (h4.append (r.less fun a z => .inl z))
    exact hy .non _ ⟨q1, po.ext.trans q2, fun j => (q3 j).trans (po.kd j), fun z => nomatch z⟩ (.inl .non)
  · rw [if_neg hz] at hy
    exact hy.elim
def ePop (i : Nat) : ES := fun ρ => (atOw i ρ).bind fun y => match y.2[y.2.length - 1]? with
  | some d => .ok (d, ρ.set i (.ow y.1 y.2.dropLast))
  | none => .bad
theorem Reps.dropLast {K : PySem.W.Frag} {O : Addr → Prop} {H : Hp} {vs : List V} {ds : List D} (r : Reps K O H vs ds) : Reps K O H vs.dropLast ds.dropLast := by
  rw [List.dropLast_eq_take, List.dropLast_eq_take, r.length]
  exact r.take _
theorem ev_pop (i : Nat) {x : Str} {apos cpos npos : Pos} (hN : X.N[i]? = some x := by rfl) (hv : Vis X.env.scope x := by first | exact Or.inl rfl | exact Or.inr (Or.inl rfl) | exact Or.inr (Or.inr rfl)) (hd : (x == ("__debug__" : Str)) = false := by decide)
    (hcd : (x == ("__classdict__" : Str)) = false := by decide)
    (hbase : attributeBase (.Name x npos) "pop" X.env (eval (.Name x npos) X.env) = eval (.Name x npos) X.env := by rfl) (hline : (apos.endLine == cpos.line) = true := by rfl) :
    EV X E false w (.Call (.Attribute (.Name x npos) "pop" apos) [] [] cpos) (ePop i) := by
  refine ⟨_, pe_bm0 PySem.F.plainAttrs_list PySem.F.slot_list_pop PySem.F.type_list_pop (fun pins s σ H x xs v us Q I r1 r2 h => mt_pop pins s σ H x xs v us Q I r1 r2 h) (pe_var (i := i) hN hv hd hcd) hbase hline, fun O W σ H ρ Q s h => ?_⟩
  obtain ⟨y, ey, hy⟩ := (Wr.bind h).at atOw_no
  obtain ⟨k, ds⟩ := y
  have e1 := atOw_ok ey
  obtain ⟨a, us, h1, h2, h3, h4⟩ := s.slot i _ e1
  refine ⟨.ref a, h1, ty_list h3, ?_⟩
  have hy : Wr (match ds[ds.length - 1]? with
    | some d => .ok (d, ρ.set i (.ow k ds.dropLast))
    | none => .bad) (fun r => ∀ v H', Post false X.K O W σ H H' ρ r.2 → RepW w X.K O H' v r.1 → Q v H') (EX X E O W H) := hy
  cases ed : ds[ds.length - 1]? with
  | none => rw [ed] at hy; exact hy.elim
  | some d =>
    rw [ed] at hy
    obtain ⟨v, hv, rv⟩ := h4.at_ ed
    refine ⟨a, us, v, rfl, rfl, h3, by rw [h4.length]; exact hv, ?_⟩
    obtain ⟨q1, q2, q3⟩ := s.wr e1 h1 h4.dropLast
    have ex : Ext W H (upd H a (.lst us.dropLast)) := q2
    exact hy v _ ⟨q1, q2, q3, fun z => nomatch z⟩ (.inl (rv.ext q2 s.sub))
end
end RT
namespace RT
open PySem PySem.Spec PyProof.Rows L2
structure FnG (P : Program) (w : World) (K : PySem.W.Frag) (mg : Str → Option Value) (base : Heap) (CX : CXT) (k : Nat) (f : Addr) (fd : FuncData) (ps : List Str) (sp : Sp) : Prop where
  len : ∀ vs H Q E, sp vs H Q E → vs.length = ps.length
  run : ∀ (A : Around) (outer : List Env) (s : Shared) (H : Hp) (args : Args) (us : List Value) (vs : List V) (Q : VK) (E : XK), Room k A → A.guards = some [] → Env0 P w K mg base A outer s H → BindsTo s fd args (ps.zip us) → Vals vs us → sp vs H Q E →
    codeAny (model P w) A (.call (.ref f) args) (CR CX outer P w H s Q E) s
theorem FnG.mono {P : Program} {w : World} {K : PySem.W.Frag} {mg : Str → Option Value} {base : Heap} {CX : CXT} {j k : Nat} {f : Addr} {fd : FuncData} {ps : List Str} {sp : Sp} (F : FnG P w K mg base CX j f fd ps sp) (h : j ≤ k) : FnG P w K mg base CX k f fd ps sp :=
  ⟨F.len, fun A outer s H args us vs Q E hr => F.run A outer s H args us vs Q E (hr.mono h)⟩
section
variable {X : Cx} {CX : CXT} {k : Nat} {f C : Addr} {fd : FuncData} {ps : List Str} {sp : Sp} {dvs : List V} {ds : List Value} {E : XK} {x m : Str} {p pos apos : Pos} {e o : Expr} {es : List Expr} {ta : TE} {t : TA}
theorem run_fnG {pins : List (Addr × Obj)} {σ : St} {H : Hp} {s : Shared} {Q : VK} {us : List Value} {vs : List V} (F : FnG X.prog X.w X.K X.mg X.base CX k f fd ps sp) (hr : Room k X.A) (hgd : X.A.guards = some []) (hb : Binds X.K fd ps ds) (hd : Vals dvs ds) (hx : Passes CX X E)
    (I : Inv X pins σ H s) (r : Vals vs us) (h : sp (vs ++ dvs) H Q E) : wpAny (model X.prog X.w) X.A (call (.ref f) us) (EP X pins σ Q) X.xe s := by
  have r2 : Vals (vs ++ dvs) (us ++ ds) := r.append hd
  have hl : (us ++ ds).length = ps.length := by rw [← r2.length]; exact F.len _ _ _ _ h
  refine wpAny_call (codeAny_mono (F.run X.A X.stack s H ⟨us, []⟩ (us ++ ds) (vs ++ dvs) Q E hr hgd I.env0 (hb s us I.kIn hl) r2 h) fun r s' hq => ?_)
  cases r with
  | error e => exact hx pins σ H s e s' I hq
  | ok fl =>
    cases fl with
    | ret u => exact I.after hq
    | next => exact False.elim hq
    | brk => exact False.elim hq
    | cont => exact False.elim hq
theorem pe_callG (F : FnG X.prog X.w X.K X.mg X.base CX k f fd ps sp) (hr : Room k X.A) (hgd : X.A.guards = some []) (hg : Gl X x) (hm : X.mg x = some (.ref f)) (hk : PySem.W.keepIn X.K (.ref f) = true) (hb : Binds X.K fd ps ds) (hd : Vals dvs ds) (hx : Passes CX X E)
    (ha : PA X (e :: es) t) (hdb : (x == ("__debug__" : Str)) = false := by decide) (he : starEach (e :: es) X.env = (false, eval e X.env) :: starEach es X.env := by rfl) (hpl : (backTo pos (starEach es X.env)).any (·.1) = false := by rfl) :
    PE X (.Call (.Name x p) (e :: es) [] pos) (tCall sp dvs E t) := by
  refine ⟨fun pins s σ H Q I h => ?_⟩
  refine wpAny_Call_Name_kw (ld_glob I hg hm ?_ hdb)
  refine PySem.W.callWith_K (h₀ := X.base) I.ok.mod.kin hk (thn (ha.run pos pins s σ H _ I h) fun us s1 ⟨vs, H1, I1, r, q⟩ => ⟨I1.kIn, ?_⟩) he hpl
  exact run_fnG F hr hgd hb hd hx I1 r q
theorem pe_callG0 (F : FnG X.prog X.w X.K X.mg X.base CX k f fd ps sp) (hr : Room k X.A) (hgd : X.A.guards = some []) (hg : Gl X x) (hm : X.mg x = some (.ref f)) (hk : PySem.W.keepIn X.K (.ref f) = true) (hb : Binds X.K fd ps ds) (hd : Vals dvs ds) (hx : Passes CX X E)
    (hdb : (x == ("__debug__" : Str)) = false := by decide) : PE X (.Call (.Name x p) [] [] pos) (tCall sp dvs E tNil) := by
  refine ⟨fun pins s σ H Q I h => ?_⟩
  refine wpAny_Call_Name_kw (ld_glob I hg hm ?_ hdb)
  exact PySem.W.callWith_K0 I.kIn hk (run_fnG (us := []) F hr hgd hb hd hx I .nil h)
end
abbrev FS := List B → Rs (D × List B)
def isArg : B → Bool
  | .un => false
  | .va _ => true
  | .ow k _ => k
def spF (K : PySem.W.Frag) (mg : Str → Option Value) (F : FS) : Sp := fun vs H Q E => ∃ (O W : Addr → Prop) (args : List B), StR K O W (vs.map some) H args ∧ args.all isArg = true ∧
  (∀ a, W a → ∃ i : Nat, isOw args[i]? = true ∧ vs[i]? = some (.ref a)) ∧
  Wr (F args) (fun r => ∀ v H', StR K O W (vs.map some) H' r.2 → Ext W H H' → Rep K O H' v r.1 → Kd args r.2 → Q v H')
    (fun c x => ∀ cls d H', Ext W H H' → ExcR K mg O H' c x cls d → E cls d H')
def mergeB : List B → List B → Option (List B)
  | [], _ => some []
  | .ow true _ :: as, .ow true es :: bs => (mergeB as bs).bind fun r => some (.ow true es :: r)
  | .ow true _ :: _, _ => none
  | a :: as, _ :: bs => (mergeB as bs).bind fun r => some (a :: r)
  | _ :: _, [] => none
def fnSem (n m : Nat) (g : List B → Fl) : FS := fun args => if args.length = n then match g (args ++ List.replicate m .un) with
  | .rt d ρ => (ofO (mergeB args ρ)).bind fun r => .ok (d, r)
  | .nx ρ => (ofO (mergeB args ρ)).bind fun r => .ok (.non, r)
  | .ex c x => .exc c x
  | _ => .bad
  else .bad
section
variable {K : PySem.W.Frag} {O W : Addr → Prop} {H H' : Hp}
theorem merge_len : ∀ {as bs r : List B}, mergeB as bs = some r → r.length = as.length
  | [], _, _, h => by cases h; rfl
  | .un :: as, b :: bs, _, h => by
    have h : ((mergeB as bs).bind fun r => some (.un :: r)) = some _ := h
    cases e : mergeB as bs with
    | none => rw [e] at h; cases h
    | some q => rw [e] at h; cases h; rw [List.length_cons, List.length_cons, merge_len e]
  | .va d :: as, b :: bs, _, h => by
    have h : ((mergeB as bs).bind fun r => some (.va d :: r)) = some _ := h
    cases e : mergeB as bs with
    | none => rw [e] at h; cases h
    | some q => rw [e] at h; cases h; rw [List.length_cons, List.length_cons, merge_len e]
  | .ow false d :: as, b :: bs, _, h => by
    have h : ((mergeB as bs).bind fun r => some (.ow false d :: r)) = some _ := h
    cases e : mergeB as bs with
    | none => rw [e] at h; cases h
    | some q => rw [e] at h; cases h; rw [List.length_cons, List.length_cons, merge_len e]
  | .ow true d :: as, .ow true es :: bs, _, h => by
    have h : ((mergeB as bs).bind fun r => some (.ow true es :: r)) = some _ := h
    cases e : mergeB as bs with
    | none => rw [e] at h; cases h
    | some q => rw [e] at h; cases h; rw [List.length_cons, List.length_cons, merge_len e]
  | .ow true d :: as, .un :: bs, _, h => by cases h
  | .ow true d :: as, .va _ :: bs, _, h => by cases h
  | .ow true d :: as, .ow false _ :: bs, _, h => by cases h
  | .un :: as, [], _, h => by cases h
  | .va d :: as, [], _, h => by cases h
  | .ow false d :: as, [], _, h => by cases h
  | .ow true d :: as, [], _, h => by cases h
theorem merge_at : ∀ {as bs r : List B} {i : Nat} {c : B}, mergeB as bs = some r → r[i]? = some c →
    (as[i]? = some c ∧ kindB (some c) ≠ some true) ∨ ∃ ds es, as[i]? = some (.ow true ds) ∧ bs[i]? = some (.ow true es) ∧ c = .ow true es
  | [], _, _, _, _, h, e => by cases h; simp at e
  | a :: as, [], _, _, _, h, e => by cases a with | un => cases h | va d => cases h | ow k d => cases k <;> cases h
  | a :: as, b :: bs, r, i, c, h, e => by
    have main : ∀ {x : B} {q : List B}, mergeB as bs = some q → r = x :: q → ((a = x ∧ kindB (some a) ≠ some true) ∨ ∃ ds es, a = .ow true ds ∧ b = .ow true es ∧ x = .ow true es) → ((a :: as)[i]? = some c ∧ kindB (some c) ≠ some true) ∨ ∃ ds es, (a :: as)[i]? = some (.ow true ds) ∧ (b :: bs)[i]? = some (.ow true es) ∧ c = .ow true es := fun {x q} e1 e2 e3 => by
      subst e2
      cases i with
      | zero =>
        simp at e
        subst e
        rcases e3 with ⟨e3, e4⟩ | ⟨ds, es, e3, e4, e5⟩
        · subst e3; exact .inl ⟨rfl, e4⟩
        · subst e3 e4 e5; exact .inr ⟨ds, es, rfl, rfl, rfl⟩
      | succ i =>
        have e : q[i]? = some c := by simpa using e
        have := merge_at (i := i) e1 e
        simpa using this
    cases a with
    | un =>
      have h : ((mergeB as bs).bind fun r => some (.un :: r)) = some r := h
      cases eq : mergeB as bs with
      | none => rw [eq] at h; cases h
      | some q => rw [eq] at h; cases h; exact main eq rfl (.inl ⟨rfl, fun z => nomatch z⟩)
    | va d =>
      have h : ((mergeB as bs).bind fun r => some (.va d :: r)) = some r := h
      cases eq : mergeB as bs with
      | none => rw [eq] at h; cases h
      | some q => rw [eq] at h; cases h; exact main eq rfl (.inl ⟨rfl, fun z => nomatch z⟩)
    | ow k d =>
      cases k with
      | false =>
        have h : ((mergeB as bs).bind fun r => some (.ow false d :: r)) = some r := h
        cases eq : mergeB as bs with
        | none => rw [eq] at h; cases h
        | some q => rw [eq] at h; cases h; exact main eq rfl (.inl ⟨rfl, fun z => by cases z⟩)
      | true =>
        cases b with
        | un => cases h
        | va _ => cases h
        | ow k' es =>
          cases k' with
          | false => cases h
          | true =>
            have h : ((mergeB as bs).bind fun r => some (.ow true es :: r)) = some r := h
            cases eq : mergeB as bs with
            | none => rw [eq] at h; cases h
            | some q => rw [eq] at h; cases h; exact main eq rfl (.inr ⟨_, _, rfl, rfl, rfl⟩)
end
theorem SI.start {K : PySem.W.Frag} {O W : Addr → Prop} {vs : List V} {H : Hp} {args : List B} {N : List Str} {m : Nat} (s : StR K O W (vs.map some) H args) (ha : args.all isArg = true) (hN : N.length = vs.length + m) :
    SI K ⟨vs, O, W, H⟩ O W (L2.start N vs) H (args ++ List.replicate m .un) := by
  have hl : args.length = vs.length := by rw [← s.len, List.length_map]
  have st : L2.start N vs = vs.map some ++ List.replicate m none := by unfold L2.start; rw [hN, Nat.add_sub_cancel_left]
  have atr : ∀ (i : Nat) (c : B), (args ++ List.replicate m B.un)[i]? = some c → (args[i]? = some c ∧ (vs.map some ++ List.replicate m (none : Option V))[i]? = (vs.map some)[i]?) ∨ c = .un := fun i c e => by
    by_cases hi : i < args.length
    · rw [List.getElem?_append_left hi] at e
      rw [List.getElem?_append_left (by rw [List.length_map, ← hl]; exact hi)]
      exact .inl ⟨e, rfl⟩
    · rw [List.getElem?_append_right (by omega), List.getElem?_replicate] at e
      split at e
      · exact .inr (Option.some.inj e).symm
      · cases e
  have kin : ∀ (i : Nat), isOw (args ++ List.replicate m B.un)[i]? = true → isOw args[i]? = true ∧ (vs.map some ++ List.replicate m (none : Option V))[i]? = (vs.map some)[i]? := fun i h => by
    cases e : (args ++ List.replicate m B.un)[i]? with
    | none => rw [e] at h; cases h
    | some c =>
      rcases atr i c e with ⟨e1, e2⟩ | e1
      · rw [e] at h; rw [e1]; exact ⟨h, e2⟩
      · rw [e, e1] at h; cases h
  have all : ∀ (i : Nat) (c : B), args[i]? = some c → isArg c = true := fun i c e => List.all_eq_true.mp ha c (List.mem_of_getElem? e)
  have kind : ∀ (i : Nat) (k : Bool), kindB (args ++ List.replicate m B.un)[i]? = some k → ∃ ds, args[i]? = some (.ow k ds) ∧ k = true ∧ (vs.map some ++ List.replicate m (none : Option V))[i]? = (vs.map some)[i]? := fun i k h => by
    cases e : (args ++ List.replicate m B.un)[i]? with
    | none => rw [e] at h; cases h
    | some c =>
      rcases atr i c e with ⟨e1, e2⟩ | e1
      · rw [e] at h
        cases c with
        | ow k' ds =>
          cases h
          have := all i _ e1
          exact ⟨ds, e1, this, e2⟩
        | _ => cases h
      · rw [e, e1] at h; cases h
  rw [st]
  refine ⟨⟨?_, fun i c e => ?_, fun i j p h1 h2 h3 h4 => ?_, s.sub, s.al⟩, Ext.refl _ _, s.al, fun a z => z, s.sub, fun a z => .inl z, fun i p h1 h2 => ?_, fun i h1 => ?_⟩
  · rw [List.length_append, List.length_append, List.length_replicate, List.length_replicate, List.length_map, hl]
  · rcases atr i c e with ⟨e1, e2⟩ | e1
    · rw [e2]; exact s.slot i c e1
    · rw [e1]; exact trivial
  · obtain ⟨o1, g1⟩ := kin i h1
    obtain ⟨o2, g2⟩ := kin j h2
    rw [g1] at h3
    rw [g2] at h4
    exact s.apart i j p o1 o2 h3 h4
  · obtain ⟨ds, e1, e2, _⟩ := kind i false h1
    cases e2
  · obtain ⟨ds, e1, e2, e3⟩ := kind i true h1
    obtain ⟨p, us, g1, g2, g3, g4⟩ := s.slot i _ e1
    rw [List.getElem?_map] at g1
    cases ev : vs[i]? with
    | none => rw [ev] at g1; cases g1
    | some v =>
      refine ⟨v, rfl, ?_⟩
      show (vs.map some ++ List.replicate m (none : Option V))[i]? = _
      rw [e3, List.getElem?_map, ev]
      rfl
theorem SI.done {K : PySem.W.Frag} {O W O' W' : Addr → Prop} {vs : List V} {H H' : Hp} {args r : List B} {σ' : St} {ρ' : List B} (s : StR K O W (vs.map some) H args) (hw : ∀ a, W a → ∃ i : Nat, isOw args[i]? = true ∧ vs[i]? = some (.ref a))
    (ha : args.all isArg = true) (s' : SI K ⟨vs, O, W, H⟩ O' W' σ' H' ρ') (e : mergeB args ρ' = some r) : StR K O W (vs.map some) H' r ∧ Ext W H H' ∧ Kd args r := by
  have kd : Kd args r := fun i => by
    cases er : r[i]? with
    | none =>
      have : args[i]? = none := List.getElem?_eq_none (by rw [← merge_len e]; exact List.getElem?_eq_none_iff.mp er)
      rw [this]
    | some c =>
      rcases merge_at e er with ⟨e1, _⟩ | ⟨ds, es, e1, e2, e3⟩
      · rw [e1]
      · rw [e1, e3]; rfl
  have al' : Al O H' := fun a z => s'.st.al a (s'.up a z)
  refine ⟨⟨by rw [merge_len e]; exact s.len, fun i c er => ?_, fun i j p h1 h2 h3 h4 => ?_, s.sub, al'⟩, s'.ext, kd⟩
  · rcases merge_at e er with ⟨e1, e2⟩ | ⟨ds, es, e1, e2, e3⟩
    · have q := s.slot i c e1
      cases c with
      | un => exact trivial
      | va d =>
        obtain ⟨v, g1, g2⟩ := q
        exact ⟨v, g1, g2.ext s'.ext s.sub⟩
      | ow k ds =>
        have := List.all_eq_true.mp ha _ (List.mem_of_getElem? e1)
        have : k = true := this
        subst this
        exact absurd rfl e2
    · subst e3
      obtain ⟨v, g1, g2⟩ := s'.bor i (by rw [e2]; rfl)
      obtain ⟨p, us, q1, q2, q3, q4⟩ := s'.st.slot i _ e2
      rw [g2] at q1
      cases q1
      obtain ⟨p0, us0, z1, z2, z3, z4⟩ := s.slot i _ e1
      have g1 : vs[i]? = some (.ref p) := g1
      have z0 : (vs.map some)[i]? = some (some (.ref p)) := by rw [List.getElem?_map, g1]; rfl
      rw [z0] at z1
      cases z1
      exact ⟨p, us, z0, z2, q3, q4.less s'.up⟩
  · have k1 : isOw args[i]? = true := by rw [isOw, ← kd i]; exact h1
    have k2 : isOw args[j]? = true := by rw [isOw, ← kd j]; exact h2
    exact s.apart i j p k1 k2 h3 h4
theorem fn_ofG {CX : CXT} {P : Program} {w : World} {K : PySem.W.Frag} {mg : Str → Option Value} {base : Heap} {k : Nat} {f : Addr} {name qual : Str} {params : Arguments} {body : List Stmt} {scope : Scope} {dV kV doc pm cdv ct oc : Value} {an od : Option Addr}
    {osl : Array (Option Value)} {N ps : List Str} {sp : Sp} (lk : K.lookup f = some ⟨oc, od, .func (PySem.W.fnOf name qual params body scope dV kV doc pm an cdv ct), osl⟩) (hcd : PySem.W.codeIn K cdv qual = true) (S : FnScope N ps scope)
    (len : ∀ vs H Q E, sp vs H Q E → vs.length = ps.length)
    (hbody : ∀ (A : Around) (outer : List Env) (s : Shared) (H : Hp) (vs : List V) (Q : VK) (E : XK), Room k (A.deeper (envOfC qual scope s.heap.objs.size f cdv)) → A.guards = some [] → sp vs H Q E →
      ∃ t, PSs (cxOf CX P w K mg base N qual scope f cdv A outer s H E) body t ∧ t { nx := fun _ H' => Q .non H', rt := Q } (L2.start N vs) H) :
    FnG P w K mg base CX (k + 1) f (PySem.W.fnOf name qual params body scope dV kV doc pm an cdv ct) ps sp := by
  refine ⟨len, fun A outer s H args us vs Q E hr hgd e0 hb r hsp => ?_⟩
  have hl := len _ _ _ _ hsp
  have KX : K.In s.heap := e0.mod.kin.keeps fun b o e => (e0.bs b o e).1
  have lim : s.heap.NoLimit := e0.mod.nolimit.keeps fun b o e => (e0.bs b o e).1
  have hkind : ∀ y ∈ ps.zip us, scope.names.lookup y.1 = some .local ∨ (scope.names.lookup y.1 = some .cell ∧ ((cellsFrom (s.heap.objs.size + 1) scope.names []).lookup y.1).isSome = true) := fun ⟨n, v⟩ hy => by
    rcases S.par n (List.of_mem_zip hy).1 with q | q
    · exact .inl q
    · exact .inr ⟨q, PySem.W.cellsFrom_some _ _ _ (.inl q)⟩
  refine codeAny_call_function hr.depth (KX _ _ lk) rfl S.co S.gen rfl (PySem.W.codeRec_of KX hcd) (hb _ _ _ _ ?_)
  refine wpAny_newFunctionEnv_cells S.kind hkind fun env he s1 x => ?_
  subst he
  refine ⟨lim.keeps x.toInCall.keep, codeAny_func ?_⟩
  obtain ⟨t, ht, hq⟩ := hbody A outer s H vs Q E (hr.deeper _) hgd hsp
  have I : Inv (cxOf CX P w K mg base N qual scope f cdv A outer s H E) [] (L2.start N vs) H s1 := inv_start S hr.hd e0 hl r x
  refine wpAny_mono (ht.run [] s1 (L2.start N vs) H _ I hq) (fun fl s' hs => ?_) fun e s' hs => hs
  have fin : ∀ {σ' : St} {H' : Hp} {v : V} {u : Value}, Inv (cxOf CX P w K mg base N qual scope f cdv A outer s H E) [] σ' H' s' → RelV v u → Q v H' → CE outer P w H s Q u s' :=
    fun {σ' H' v u} J rv q => ⟨v, H', J.os, J.bare, J.base, J.hok, rv, q⟩
  cases fl with
  | ret u =>
    obtain ⟨v, σ', H', J, rv, q⟩ := hs
    exact fin J rv q
  | next =>
    obtain ⟨σ', H', J, q⟩ := hs
    exact fin (v := V.non) (u := Value.none) J rfl q
  | brk =>
    obtain ⟨_, _, _, q⟩ := hs
    exact False.elim q
  | cont =>
    obtain ⟨_, _, _, q⟩ := hs
    exact False.elim q
theorem FnG.of_body {P : Program} {w : World} {K : PySem.W.Frag} {mg : Str → Option Value} {base : Heap} {x qual : Str} {params : Arguments} {body : List Stmt} {scope : Scope} {f : Addr} {fd : FuncData} {N ps : List Str} {k n m : Nat} {g : List B → Fl}
    (F : FunD K x qual params body scope [] [] f fd) (S : FnScope N ps scope) (hn : ps.length = n) (hN : N.length = n + m)
    (hbody : ∀ (cdv : Value) (A : Around) (outer : List Env) (s : Shared) (H : Hp) (E : XK), Room k (A.deeper (envOfC qual scope s.heap.objs.size f cdv)) → (A.deeper (envOfC qual scope s.heap.objs.size f cdv)).guards = some [] →
      SSs (cxOf CX0 P w K mg base N qual scope f cdv A outer s H E).nox E0 body g) : FnG P w K mg base CX0 (k + 1) f fd ps (spF K mg fun a => noX (fnSem n m g a)) := by
  obtain ⟨oc, od, dV, kV, doc, pm, an, cdv, ct, osl, rfl, lk, hcd, _, _⟩ := F.ex
  have lenA : ∀ {args : List B} {r : D × List B}, noX (fnSem n m g args) = .ok r → args.length = n := fun {args r} e => by
    unfold fnSem at e
    by_cases h : args.length = n
    · exact h
    · rw [if_neg h] at e; cases e
  refine fn_ofG lk hcd S (fun vs H Q E h => ?_) fun A outer s H vs Q E hr hgd h => ?_
  · obtain ⟨O, W, args, st, ha, hw, h⟩ := h
    cases e : noX (fnSem n m g args) with
    | ok r => rw [hn, ← lenA e, ← st.len, List.length_map]
    | exc c x => cases q : fnSem n m g args <;> rw [q] at e <;> cases e
    | bad =>
      have h : Wr (noX (fnSem n m g args)) _ _ := h
      rw [e] at h; exact h.elim
  · obtain ⟨O, W, args, st, ha, hw, h⟩ := h
    obtain ⟨t, pt, rt⟩ := (hbody cdv A outer s H E hr hgd).ex
    refine ⟨t, pt.nox, ?_⟩
    have h : Wr (noX (fnSem n m g args)) (fun r => ∀ v H', StR K O W (vs.map some) H' r.2 → Ext W H H' → Rep K O H' v r.1 → Kd args r.2 → Q v H') _ := h
    have hl : args.length = n := by
      cases e : noX (fnSem n m g args) with
      | ok r => exact lenA e
      | exc c x => cases q : fnSem n m g args <;> rw [q] at e <;> cases e
      | bad => rw [e] at h; exact h.elim
    have hv : vs.length = n := by rw [← hl, ← st.len, List.length_map]
    have s0 : SI K ⟨vs, O, W, H⟩ O W (L2.start N vs) H (args ++ List.replicate m .un) := SI.start st ha (by rw [hv, hN])
    refine rt ⟨vs, O, W, H⟩ O W _ _ H _ s0 ?_
    unfold fnSem at h
    rw [if_pos hl] at h
    have fin : ∀ {d : D} {ρ : List B}, Wr (noX ((ofO (mergeB args ρ)).bind fun r => .ok (d, r))) (fun r => ∀ v H', StR K O W (vs.map some) H' r.2 → Ext W H H' → Rep K O H' v r.1 → Kd args r.2 → Q v H') (fun c x => ∀ cls d H', Ext W H H' → ExcR K mg O H' c x cls d → E cls d H') →
        ∀ v O' W' σ' H', SI K ⟨vs, O, W, H⟩ O' W' σ' H' ρ → Rep K O' H' v d → Q v H' := fun {d ρ} q v O' W' σ' H' s' r => by
      cases em : mergeB args ρ with
      | none => rw [em] at q; exact q.elim
      | some r' =>
        rw [em] at q
        obtain ⟨q1, q2, q3⟩ := SI.done st hw ha s' em
        exact q v H' q1 q2 (r.less s'.up) q3
    cases eg : g (args ++ List.replicate m .un) with
    | nx ρ =>
      rw [eg] at h
      exact fun O' W' σ' H' s' t' => fin h .non O' W' σ' H' s' .non
    | rt d ρ =>
      rw [eg] at h
      exact fun v O' W' σ' H' s' r => fin h v O' W' σ' H' s' r
    | bk ρ => rw [eg] at h; exact h.elim
    | ct ρ => rw [eg] at h; exact h.elim
    | ex c x => rw [eg] at h; exact h.elim
    | ro ds ρ => rw [eg] at h; exact h.elim
    | bad => rw [eg] at h; exact h.elim
end RT
namespace RT
open PySem PySem.Spec PyProof.Rows L2
structure Cal (P : Program) (w : World) (K : PySem.W.Frag) (mg : Str → Option Value) (base : Heap) (k : Nat) (x : Str) (n : Nat) (F : FS) : Prop where
  ex : ∃ (f : Addr) (fd : FuncData) (ps : List Str), mg x = some (.ref f) ∧ PySem.W.keepIn K (.ref f) = true ∧ ps.length = n ∧ Binds K fd ps [] ∧ FnG P w K mg base CX0 k f fd ps (spF K mg F)
theorem Cal.mono {P : Program} {w : World} {K : PySem.W.Frag} {mg : Str → Option Value} {base : Heap} {j k : Nat} {x : Str} {n : Nat} {F : FS} (C : Cal P w K mg base j x n F) (h : j ≤ k) : Cal P w K mg base k x n F := by
  obtain ⟨f, fd, ps, h1, h2, h3, h4, h5⟩ := C.ex
  exact ⟨f, fd, ps, h1, h2, h3, h4, h5.mono h⟩
def eCall (F : FS) (ar : AS) : ES := fun ρ => (ar ρ).bind fun x => (noX (F (x.1.map .va))).bind fun y => .ok (y.1, x.2)
def eCallB (j : Nat) (F : FS) (ar : AS) : ES := fun ρ => (atOw j ρ).bind fun _ => (ar ρ).bind fun x => (atOw j x.2).bind fun z => (noX (F (.ow true z.2 :: x.1.map .va))).bind fun y => match y.2 with
  | .ow true es :: _ => .ok (y.1, x.2.set j (.ow z.1 es))
  | _ => .bad
section
variable {X : Cx} {E : XK} {p w : Bool} {k n : Nat} {x : Str} {F : FS} {e : Expr} {es : List Expr} {ar : AS} {pp pos : Pos}
theorem strArgs {K : PySem.W.Frag} {O : Addr → Prop} {H : Hp} {vs : List V} {ds : List D} (r : Reps K O H vs ds) (al : Al O H) : StR K O (fun _ => False) (vs.map some) H (ds.map .va) where
  len := by rw [List.length_map, List.length_map]; exact r.length
  slot := fun i b e => by
    rw [List.getElem?_map] at e
    cases ed : ds[i]? with
    | none => rw [ed] at e; cases e
    | some d =>
      rw [ed] at e
      cases e
      obtain ⟨v, hv, rv⟩ := r.at_ ed
      exact ⟨v, by rw [List.getElem?_map, hv]; rfl, rv⟩
  apart := fun i j q h1 _ _ _ => by
    rw [List.getElem?_map] at h1
    cases ed : ds[i]? with
    | none => rw [ed] at h1; cases h1
    | some d => rw [ed] at h1; cases h1
  sub := fun _ z => z.elim
  al := al
theorem allVa (ds : List D) : (ds.map B.va).all isArg = true := by
  rw [List.all_map]
  exact List.all_eq_true.mpr fun _ _ => rfl
theorem reps_of' {O : Addr → Prop} {H : Hp} {K : PySem.W.Frag} {vs : List V} {ds : List D} (h : Paired (RepW false K O H) vs ds) : Reps K O H vs ds := reps_of h
theorem ev_call (C : Cal X.prog X.w X.K X.mg X.base k x n F) (hr : Room k X.A) (hgd : X.A.guards = some []) (ha : AV X E p false (e :: es) ar) (hn : (e :: es).length = n := by rfl) (hg : Gl X x := by rfl) (hdb : (x == ("__debug__" : Str)) = false := by decide)
    (he : starEach (e :: es) X.env = (false, eval e X.env) :: starEach es X.env := by rfl) (hpl : (backTo pos (starEach es X.env)).any (·.1) = false := by rfl) : EV X E p w (.Call (.Name x pp) (e :: es) [] pos) (eCall F ar) := by
  obtain ⟨f, fd, ps, h1, h2, h3, h4, h5⟩ := C.ex
  obtain ⟨t, pt, rt⟩ := ha.ex
  refine ⟨_, pe_callG h5 hr hgd hg h1 h2 h4 .nil pass0 pt hdb he hpl, fun O W σ H ρ Q s h => ?_⟩
  refine rt O W σ H ρ _ s (h.bind.mono (fun x hx vs H1 po r => ?_) fun _ _ z => z)
  have rr := reps_of r
  rw [List.append_nil]
  refine ⟨O, fun _ => False, x.1.map .va, strArgs rr po.st.al, allVa _, fun _ z => z.elim, (Wr.noX (Wr.bind hx)).mono (fun y hy v H' s2 e2 r2 _ => ?_) fun _ _ z => z⟩
  have sm : Same H1 H' := fun b o h => e2 b o (fun z => z) h
  exact hy v H' (po.more sm) (.inl r2)
theorem ev_callB (j : Nat) {y : Str} {py : Pos} (C : Cal X.prog X.w X.K X.mg X.base k x n F) (hr : Room k X.A) (hgd : X.A.guards = some []) (ha : AV X E p false es ar) (hg : Gl X x := by rfl) (hdb : (x == ("__debug__" : Str)) = false := by decide)
    (hN : X.N[j]? = some y := by rfl) (hv : Vis X.env.scope y := by first | exact Or.inl rfl | exact Or.inr (Or.inl rfl) | exact Or.inr (Or.inr rfl)) (hd : (y == ("__debug__" : Str)) = false := by decide)
    (hcd : (y == ("__classdict__" : Str)) = false := by decide)
    (he : starEach (.Name y py :: es) X.env = (false, eval (.Name y py) X.env) :: starEach es X.env := by rfl) (hpl : (backTo pos (starEach es X.env)).any (·.1) = false := by rfl) : EV X E false w (.Call (.Name x pp) (.Name y py :: es) [] pos) (eCallB j F ar) := by
  obtain ⟨f, fd, ps, h1, h2, h3, h4, h5⟩ := C.ex
  obtain ⟨t, pt, rt⟩ := ha.ex
  refine ⟨_, pe_callG h5 hr hgd hg h1 h2 h4 .nil pass0 (pa_cons (pe_var (i := j) hN hv hd hcd) pt he) hdb he hpl, fun O W σ H ρ Q s h => ?_⟩
  obtain ⟨h, a, us0, ea, eh⟩ := own_at (b := true) s h
  refine ⟨.ref a, ea, ?_⟩
  refine rt O W σ H ρ _ s (h.bind.mono (fun x hx vs H1 po r => ?_) fun _ _ z => z)
  have rr := reps_of r
  obtain ⟨z, ez, hz⟩ := (Wr.bind hx).at atOw_no
  obtain ⟨kb, ds⟩ := z
  have e1 := atOw_ok ez
  obtain ⟨a', us, q1, q2, q3, q4⟩ := po.st.slot j _ e1
  rw [ea] at q1
  cases q1
  show spF X.K X.mg F ((V.ref a :: vs) ++ []) H1 Q E0
  rw [List.append_nil]
  have sA := strArgs rr po.st.al
  have stA : StR X.K O (fun b => b = a) ((V.ref a :: vs).map some) H1 (.ow true ds :: x.1.map .va) := by
    refine ⟨by simp [sA.len, rr.length], fun i c e => ?_, fun i l p g1 g2 g3 g4 => ?_, fun b z => by rw [z]; exact po.st.sub _ q2, po.st.al⟩
    · cases i with
      | zero =>
        simp at e
        subst e
        exact ⟨a, us, rfl, rfl, q3, q4⟩
      | succ i =>
        have e : (x.1.map B.va)[i]? = some c := by simpa using e
        have q := sA.slot i c e
        cases c with
        | un => exact trivial
        | va d => exact q
        | ow k' ds' =>
          rw [List.getElem?_map] at e
          cases ed : x.1[i]? with
          | none => rw [ed] at e; cases e
          | some d => rw [ed] at e; cases e
    · have z : ∀ {i : Nat}, isOw (B.ow true ds :: x.1.map B.va)[i]? = true → i = 0 := fun {i} g => by
        cases i with
        | zero => rfl
        | succ i =>
          have e0 : (B.ow true ds :: x.1.map B.va)[i + 1]? = (x.1.map B.va)[i]? := rfl
          rw [e0, List.getElem?_map] at g
          cases ed : x.1[i]? with
          | none => rw [ed] at g; cases g
          | some d => rw [ed] at g; cases g
      rw [z g1, z g2]
  refine ⟨O, fun b => b = a, .ow true ds :: x.1.map .va, stA, ?_, fun b z => ⟨0, rfl, by rw [z]; rfl⟩, (Wr.noX (Wr.bind hz)).mono (fun y hy v H' s2 e2 r2 kd2 => ?_) fun _ _ z => z⟩
  · rw [List.all_cons, allVa]; rfl
  obtain ⟨dy, as⟩ := y
  cases as with
  | nil => exact hy.elim
  | cons c as =>
    cases c with
    | un => exact hy.elim
    | va d => exact hy.elim
    | ow k' es' =>
      cases k' with
      | false => exact hy.elim
      | true =>
        have hy : ∀ v H'', Post false X.K O W σ H H'' ρ (x.2.set j (.ow kb es')) → RepW w X.K O H'' v dy → Q v H'' := hy
        obtain ⟨a2, us2, g1, g2, g3, g4⟩ := s2.slot 0 _ rfl
        have g1 : some (some (V.ref a)) = some (some (V.ref a2)) := g1
        cases g1
        have exW : Ext W H1 H' := e2.mono fun b z => by rw [z]; exact q2
        have hset : StR X.K O W σ H' (x.2.set j (.ow kb es')) ∧ Kd x.2 (x.2.set j (.ow kb es')) := by
          have hi : j < x.2.length := (List.getElem?_eq_some_iff.mp e1).1
          refine ⟨⟨by rw [List.length_set]; exact po.st.len, fun i c ec => ?_, fun i l q m1 m2 m3 m4 => ?_, po.st.sub, s2.al⟩, fun i => ?_⟩
          · rcases set_some ec with ⟨z1, z2⟩ | ⟨z1, z2⟩
            · subst z1; subst z2
              exact ⟨a, us2, ea, q2, g3, g4⟩
            · have q := po.st.slot i c z2
              cases c with
              | un => exact trivial
              | va d =>
                obtain ⟨v, m1, m2⟩ := q
                exact ⟨v, m1, m2.ext exW po.st.sub⟩
              | ow k' ds' =>
                obtain ⟨p', vs', m1, m2, m3, m4⟩ := q
                refine ⟨p', vs', m1, m2, e2 p' _ (fun z => ?_) m3, m4.ext exW po.st.sub⟩
                subst z
                exact z1 (po.st.apart j i p' (by rw [e1]; rfl) (by rw [z2]; rfl) ea m1)
          · have ow : ∀ l, isOw (x.2.set j (.ow kb es'))[l]? = true → isOw x.2[l]? = true := fun l h => by
              unfold isOw at h ⊢
              rw [kind_set] at h
              split at h
              · rename_i hh
                rw [← hh.1, e1]; rfl
              · exact h
            exact po.st.apart i l q (ow i m1) (ow l m2) m3 m4
          · rw [kind_set]
            split
            · rename_i hh
              rw [← hh.1, e1]; rfl
            · rfl
        exact hy v H' ⟨hset.1, po.ext.trans exW, fun i => (hset.2 i).trans (po.kd i), fun z => nomatch z⟩ (.inl r2)
end
end RT
namespace RT
open PySem PySem.Spec PyProof.Rows L2
theorem OpR.or' {X : Cx} {f : Value → Value → Sem Value} {r r' : R2} (h : OpR X f r) (h' : OpR X f r') : OpR X f (fun x y H Q => r x y H Q ∨ r' x y H Q) := by
  intro pins s σ H x y v u Q I rx ry q
  rcases q with q | q
  · exact h pins s σ H x y v u Q I rx ry q
  · exact h' pins s σ H x y v u Q I rx ry q
mutual
def dP : D → PyData
  | .non => .none
  | .bl b => .bool b
  | .int i => .int i
  | .str x => .str x
  | .tup xs => .tuple (dPs xs)
  | .lst xs => .list (dPs xs)
def dPs : List D → List PyData
  | [] => []
  | x :: xs => dP x :: dPs xs
end
section
variable {K : PySem.W.Frag} {O : Addr → Prop} {H : Hp} {w : Bool}
mutual
theorem Rep.dp {v : V} {d : D} (r : Rep K O H v d) : Dp K H v (dP d) := by
  cases r with
  | non => exact .non
  | bl b => exact .bl b
  | int i => exact .int i
  | str x => exact .str x
  | tup h t => exact .tup h.sq (Reps.dp t)
  | lst h t => exact .lst h.sq (Reps.dp t)
theorem Reps.dp {vs : List V} {ds : List D} (r : Reps K O H vs ds) : DpAll K H vs (dPs ds) := by
  cases r with
  | nil => exact .nil
  | cons h t => exact .cons (Rep.dp h) (Reps.dp t)
end
theorem RepW.dp {v : V} {d : D} (r : RepW w K O H v d) : Dp K H v (dP d) := by
  rcases r with r | ⟨_, a, vs, ds, rfl, rfl, h3, h4⟩
  · exact r.dp
  · exact .lst h3.sq h4.dp
end
def eqD (a b : D) : Option Bool := if SeqAt.shaped (dP a) = true ∧ SeqAt.shaped (dP b) = true then some (PyData.eqv (dP a) (dP b)) else none
def dEq (a b : D) : Option D := match a, b with
  | .int i, .int j => some (.bl (i == j))
  | .bl i, .bl j => some (.bl (i == j))
  | .str i, .str j => some (.bl (i == j))
  | a, b => (eqD a b).map .bl
def dNe (a b : D) : Option D := match a, b with
  | .int i, .int j => some (.bl (!(i == j)))
  | .bl i, .bl j => some (.bl (!(i == j)))
  | .str i, .str j => some (.bl (!(i == j)))
  | a, b => (eqD a b).map fun k => .bl (!k)
theorem eqD_some {a b : D} {k : Bool} (h : eqD a b = some k) : SeqAt.shaped (dP a) = true ∧ SeqAt.shaped (dP b) = true ∧ PyData.eqv (dP a) (dP b) = k := by
  unfold eqD at h
  split at h
  · rename_i hh
    exact ⟨hh.1, hh.2, Option.some.inj h⟩
  · cases h
section
variable {K : PySem.W.Frag} {w w1 w2 : Bool} {X : Cx}
def rEqA (K : PySem.W.Frag) : R2 := fun x y H Q => rEq x y H Q ∨ rEqD K x y H Q
def rNeA (K : PySem.W.Frag) : R2 := fun x y H Q => rNe x y H Q ∨ rNeD K x y H Q
theorem op_eqA (hu : X.A.units + 64 < cLine) : OpR X (compareOp .Eq) (rEqA X.K) := OpR.or' op_eq (op_eqD hu)
theorem op_neA (hu : X.A.units + 64 < cLine) : OpR X (compareOp .NotEq) (rNeA X.K) := OpR.or' op_ne (op_neD hu)
theorem od_eqD {a b : D} {x y : V} {O : Addr → Prop} {H : Hp} {Q : VK} {k : Bool} (r1 : RepW w1 K O H x a) (r2 : RepW w2 K O H y b) (e : eqD a b = some k) (hq : Q (.bl k) H) : rEqA K x y H Q := by
  obtain ⟨h1, h2, h3⟩ := eqD_some e
  exact .inr ⟨_, _, r1.dp, r2.dp, h1, h2, by rw [h3]; exact hq⟩
theorem od_neD {a b : D} {x y : V} {O : Addr → Prop} {H : Hp} {Q : VK} {k : Bool} (r1 : RepW w1 K O H x a) (r2 : RepW w2 K O H y b) (e : eqD a b = some k) (hq : Q (.bl (!k)) H) : rNeA K x y H Q := by
  obtain ⟨h1, h2, h3⟩ := eqD_some e
  exact .inr ⟨_, _, r1.dp, r2.dp, h1, h2, by rw [h3]; exact hq⟩
theorem od_eq : Od K w1 w2 (rEqA K) dEq := by
  intro O H x y a b c Q al r1 r2 e hq
  have fin : ∀ {k : Option Bool}, k = eqD a b → k.map D.bl = some c → rEqA K x y H Q := fun {k} hk e => by
    cases k with
    | none => cases e
    | some k => cases e; exact od_eqD r1 r2 hk.symm (hq _ H (fun _ _ h => h) (.bl k))
  have refl : Same H H := fun _ _ h => h
  cases a <;> cases b <;> first
    | exact fin rfl e
    | (cases e
       first
       | (cases r1.int_inv; cases r2.int_inv; exact .inl ⟨rfl, by rw [dec_int]; exact hq _ H refl (.bl _)⟩)
       | (cases r1.bl_inv; cases r2.bl_inv; exact .inl ⟨rfl, by rw [dec_bl]; exact hq _ H refl (.bl _)⟩)
       | (cases r1.str_inv; cases r2.str_inv; exact .inl ⟨rfl, by rw [dec_str]; exact hq _ H refl (.bl _)⟩))
theorem od_ne : Od K w1 w2 (rNeA K) dNe := by
  intro O H x y a b c Q al r1 r2 e hq
  have fin : ∀ {k : Option Bool}, k = eqD a b → k.map (fun k => D.bl (!k)) = some c → rNeA K x y H Q := fun {k} hk e => by
    cases k with
    | none => cases e
    | some k => cases e; exact od_neD r1 r2 hk.symm (hq _ H (fun _ _ h => h) (.bl _))
  have refl : Same H H := fun _ _ h => h
  cases a <;> cases b <;> first
    | exact fin rfl e
    | (cases e
       first
       | (cases r1.int_inv; cases r2.int_inv; exact .inl ⟨rfl, by rw [dec_int]; exact hq _ H refl (.bl _)⟩)
       | (cases r1.bl_inv; cases r2.bl_inv; exact .inl ⟨rfl, by rw [dec_bl]; exact hq _ H refl (.bl _)⟩)
       | (cases r1.str_inv; cases r2.str_inv; exact .inl ⟨rfl, by rw [dec_str]; exact hq _ H refl (.bl _)⟩))
def intsD : List D → Option (List Int)
  | [] => some []
  | .int i :: r => (intsD r).map (i :: ·)
  | _ => none
def boolsD : List D → Option (List Bool)
  | [] => some []
  | .bl i :: r => (boolsD r).map (i :: ·)
  | _ => none
theorem ints_reps {O : Addr → Prop} {H : Hp} : ∀ {vs : List V} {ds : List D} {ns : List Int}, Reps K O H vs ds → intsD ds = some ns → vs = ns.map V.int
  | _, _, _, .nil, e => by cases e; rfl
  | _, _, ns, .cons (d := d) (ds := ds) r t, e => by
    cases d with
    | int i =>
      have e : (intsD ds).map (i :: ·) = some ns := e
      cases q : intsD ds with
      | none => rw [q] at e; cases e
      | some ms =>
        rw [q] at e
        cases e
        rw [r.int_inv, ints_reps t q]
        rfl
    | _ => cases e
theorem bools_reps {O : Addr → Prop} {H : Hp} : ∀ {vs : List V} {ds : List D} {ns : List Bool}, Reps K O H vs ds → boolsD ds = some ns → vs = ns.map V.bl
  | _, _, _, .nil, e => by cases e; rfl
  | _, _, ns, .cons (d := d) (ds := ds) r t, e => by
    cases d with
    | bl i =>
      have e : (boolsD ds).map (i :: ·) = some ns := e
      cases q : boolsD ds with
      | none => rw [q] at e; cases e
      | some ms =>
        rw [q] at e
        cases e
        rw [r.bl_inv, bools_reps t q]
        rfl
    | _ => cases e
theorem reps_ints {O : Addr → Prop} {H : Hp} : ∀ (ns : List Int), Reps K O H (ns.map V.int) (ns.map D.int)
  | [] => .nil
  | n :: ns => .cons (.int n) (reps_ints ns)
def dAdd (a b : D) : Option D := match a, b with
  | .int i, .int j => some (.int (i + j))
  | .str i, .str j => if i.length + j.length ≤ sizeLine then some (.str (i ++ j)) else none
  | .tup xs, .tup ys => if xs.length + ys.length ≤ sizeLine then some (.tup (xs ++ ys)) else none
  | .lst xs, .lst ys => if xs.length + ys.length ≤ sizeLine then some (.lst (xs ++ ys)) else none
  | _, _ => none
def rCatL (K : PySem.W.Frag) : R2 := fun x y H Q => ∃ l b xs zs, x = .ref l ∧ y = .ref b ∧ RdL K H l xs ∧ RdL K H b zs ∧ xs.length + zs.length ≤ sizeLine ∧ ∀ p, H p = none → Q (.ref p) (upd H p (.lst (xs ++ zs)))
theorem RdL.obj {X : Cx} {pins : List (Addr × Obj)} {σ : St} {H : Hp} {s : Shared} {a : Addr} {xs : List V} (I : Inv X pins σ H s) (h : RdL X.K H a xs) : ∃ (its : List Value) (n : Nat), Vals xs its ∧ s.heap.get? a = some { cls := .type "list", data := .seq its.toArray n } ∧ xs.length ≤ sizeLine := by
  rcases h with h | ⟨o, its, n, h1, h2, h3, h4, h5, h6, h7⟩
  · obtain ⟨z, its, n, r, e⟩ := h.ok I.hok
    exact ⟨its, n, r, e, z⟩
  · refine ⟨its.toList, n, h6, ?_, by rw [h6.length]; simpa using h5⟩
    rw [I.kIn a o h1]
    obtain ⟨c, dd, da, sl⟩ := o
    simp only at h2 h3 h4 h7
    subst h2 h3 h4 h7
    simp
theorem op_catL : OpR X (binaryOp .Add) (rCatL X.K) := by
  intro pins s σ H x y v u Q I rx ry h
  obtain ⟨l, b, xs, zs, rfl, rfl, hH, hB, hz, q⟩ := h
  cases rx
  cases ry
  obtain ⟨its, n, r, e, hl⟩ := hH.obj I
  obtain ⟨its2, n2, r2, e2, hl2⟩ := hB.obj I
  have l1 := r.length
  have l2 := r2.length
  refine PySem.P.add_list e e2 ?_ (by rw [List.size_toArray, List.size_toArray]; omega)
  have ea : its.toArray ++ its2.toArray = (its ++ its2).toArray := by simp
  rw [ea]
  exact ⟨.ref _, _, I.lnew (t' := s.toks) (r.append r2) (by rw [List.length_append]; omega), rfl, q _ I.fresh⟩
def rAddA (K : PySem.W.Frag) : R2 := fun x y H Q => (rI0 fun i j => .int (i + j)) x y H Q ∨ (∃ i j, x = .str i ∧ y = .str j ∧ i.length + j.length ≤ sizeLine ∧ Q (.str (i ++ j)) H) ∨ rCatA K x y H Q ∨ rCatL K x y H Q
theorem op_addA : OpR X (binaryOp .Add) (rAddA X.K) := OpR.or' op_add (OpR.or' op_add_str (OpR.or' op_catA op_catL))
theorem same_refl (H : Hp) : Same H H := fun _ _ h => h
theorem od_add : Od K w1 w2 (rAddA K) dAdd := by
  intro O H x y a b c Q al r1 r2 e hq
  cases a <;> cases b <;> first
    | (cases e; done)
    | skip
  · cases e
    rw [r1.int_inv, r2.int_inv]
    exact .inl ⟨_, _, rfl, rfl, hq _ H (same_refl H) (.int _)⟩
  · rename_i i j
    have e : (if i.length + j.length ≤ sizeLine then some (D.str (i ++ j)) else none) = some c := e
    split at e
    · cases e
      rw [r1.str_inv, r2.str_inv]
      exact .inr (.inl ⟨_, _, rfl, rfl, by assumption, hq _ H (same_refl H) (.str _)⟩)
    · cases e
  · rename_i xs ys
    have e : (if xs.length + ys.length ≤ sizeLine then some (D.tup (xs ++ ys)) else none) = some c := e
    split at e
    · rename_i hz
      cases e
      obtain ⟨a1, vs, rfl, h1, h2⟩ := r1.tup_inv
      obtain ⟨a2, us, rfl, h3, h4⟩ := r2.tup_inv
      refine .inr (.inr (.inl ⟨a1, a2, vs, us, rfl, rfl, h1.sq, h3.sq, by rw [h2.length, h4.length]; exact hz, fun z => ?_, fun z z' => ?_, fun z z' p hp => ?_⟩))
      · subst z
        cases h2
        exact hq _ H (same_refl H) (.tup h3 h4)
      · subst z'
        cases h4
        rw [List.append_nil] at hq
        exact hq _ H (same_refl H) (.tup h1 h2)
      · exact hq _ _ (same_new hp) (Rep.newT al hp (h2.append h4))
    · cases e
  · rename_i xs ys
    have e : (if xs.length + ys.length ≤ sizeLine then some (D.lst (xs ++ ys)) else none) = some c := e
    split at e
    · rename_i hz
      cases e
      obtain ⟨a1, vs, rfl, h1, h2⟩ := r1.lst_invR
      obtain ⟨a2, us, rfl, h3, h4⟩ := r2.lst_invR
      exact .inr (.inr (.inr ⟨a1, a2, vs, us, rfl, rfl, h1, h3, by rw [h2.length, h4.length]; exact hz, fun p hp => hq _ _ (same_new hp) (Rep.newL al hp (h2.append h4))⟩))
    · cases e
def dSub (a b : D) : Option D := match a, b with
  | .int i, .int j => some (.int (i - j))
  | _, _ => none
theorem od_int {g : Int → Int → D} {gv : Int → Int → V} {C : Int → Int → Prop} [∀ i j, Decidable (C i j)] {f : D → D → Option D} (hf : ∀ a b c, f a b = some c → ∃ i j, a = .int i ∧ b = .int j ∧ C i j ∧ c = g i j) (hr : ∀ O H i j, Rep K O H (gv i j) (g i j)) : Od K w1 w2 (rI C gv) f := by
  intro O H x y a b c Q al r1 r2 e hq
  obtain ⟨i, j, rfl, rfl, hc, rfl⟩ := hf a b c e
  rw [r1.int_inv, r2.int_inv]
  exact ⟨_, _, rfl, rfl, hc, hq _ H (same_refl H) (hr _ _ _ _)⟩
theorem od_int0 {g : Int → Int → D} {gv : Int → Int → V} {f : D → D → Option D} (hf : ∀ a b c, f a b = some c → ∃ i j, a = .int i ∧ b = .int j ∧ c = g i j) (hr : ∀ O H i j, Rep K O H (gv i j) (g i j)) : Od K w1 w2 (rI0 gv) f := by
  intro O H x y a b c Q al r1 r2 e hq
  obtain ⟨i, j, rfl, rfl, rfl⟩ := hf a b c e
  rw [r1.int_inv, r2.int_inv]
  exact ⟨_, _, rfl, rfl, hq _ H (same_refl H) (hr _ _ _ _)⟩
theorem od_sub : Od K w1 w2 (rI0 fun i j => .int (i - j)) dSub := od_int0 (g := fun i j => .int (i - j)) (fun a b c e => by
  cases a <;> cases b <;> cases e
  exact ⟨_, _, rfl, rfl, rfl⟩) fun _ _ _ _ => .int _
instance (i j : Int) : Decidable (CMulW i j) := inferInstanceAs (Decidable (_ < _))
instance (i j : Int) : Decidable (CDivW i j) := inferInstanceAs (Decidable (_ ∧ _))
def dMul (a b : D) : Option D := match a, b with
  | .int i, .int j => if CMulW i j then some (.int (i * j)) else none
  | _, _ => none
theorem od_mul : Od K w1 w2 (rI CMulW fun i j => .int (i * j)) dMul := od_int (g := fun i j => .int (i * j)) (fun a b c e => by
  cases a <;> cases b <;> first | (cases e; done) | skip
  rename_i i j
  have e : (if CMulW i j then some (D.int (i * j)) else none) = some c := e
  split at e <;> cases e
  exact ⟨_, _, rfl, rfl, by assumption, rfl⟩) fun _ _ _ _ => .int _
def dDiv (a b : D) : Option D := match a, b with
  | .int i, .int j => if CDivW i j then some (.int (i / j)) else none
  | _, _ => none
theorem od_div : Od K w1 w2 (rI CDivW fun i j => .int (i / j)) dDiv := od_int (g := fun i j => .int (i / j)) (fun a b c e => by
  cases a <;> cases b <;> first | (cases e; done) | skip
  rename_i i j
  have e : (if CDivW i j then some (D.int (i / j)) else none) = some c := e
  split at e <;> cases e
  exact ⟨_, _, rfl, rfl, by assumption, rfl⟩) fun _ _ _ _ => .int _
def dMod (a b : D) : Option D := match a, b with
  | .int i, .int j => if 0 < j then some (.int (i % j)) else none
  | _, _ => none
theorem od_mod : Od K w1 w2 (rI (fun _ j => 0 < j) fun i j => .int (i % j)) dMod := od_int (g := fun i j => .int (i % j)) (fun a b c e => by
  cases a <;> cases b <;> first | (cases e; done) | skip
  rename_i i j
  have e : (if 0 < j then some (D.int (i % j)) else none) = some c := e
  split at e <;> cases e
  exact ⟨_, _, rfl, rfl, by assumption, rfl⟩) fun _ _ _ _ => .int _
def CPowW (i j : Int) : Prop := 0 ≤ j ∧ (Builtin.Int.intBits i : Int) * j ≤ 2 ^ 27
instance (i j : Int) : Decidable (CPowW i j) := inferInstanceAs (Decidable (_ ∧ _))
theorem op_powW : OpR X (binaryOp .Pow) (rI CPowW fun i j => .int (i ^ j.toNat)) := opI fun _ _ _ _ _ _ _ hc q => pow_int hc.1 hc.2 q
def dPow (a b : D) : Option D := match a, b with
  | .int i, .int j => if CPowW i j then some (.int (i ^ j.toNat)) else none
  | _, _ => none
theorem od_pow : Od K w1 w2 (rI CPowW fun i j => .int (i ^ j.toNat)) dPow := od_int (g := fun i j => .int (i ^ j.toNat)) (fun a b c e => by
  cases a <;> cases b <;> first | (cases e; done) | skip
  rename_i i j
  have e : (if CPowW i j then some (D.int (i ^ j.toNat)) else none) = some c := e
  split at e <;> cases e
  exact ⟨_, _, rfl, rfl, by assumption, rfl⟩) fun _ _ _ _ => .int _
def dLt (a b : D) : Option D := match a, b with
  | .int i, .int j => some (.bl (decide (i < j)))
  | _, _ => none
def dLe (a b : D) : Option D := match a, b with
  | .int i, .int j => some (.bl (decide (i ≤ j)))
  | _, _ => none
def dGt (a b : D) : Option D := match a, b with
  | .int i, .int j => some (.bl (decide (j < i)))
  | _, _ => none
def dGe (a b : D) : Option D := match a, b with
  | .int i, .int j => some (.bl (decide (j ≤ i)))
  | _, _ => none
theorem od_lt : Od K w1 w2 (rI0 fun i j => .bl (decide (i < j))) dLt := od_int0 (g := fun i j => .bl (decide (i < j))) (fun a b c e => by
  cases a <;> cases b <;> cases e
  exact ⟨_, _, rfl, rfl, rfl⟩) fun _ _ _ _ => .bl _
theorem od_le : Od K w1 w2 (rI0 fun i j => .bl (decide (i ≤ j))) dLe := od_int0 (g := fun i j => .bl (decide (i ≤ j))) (fun a b c e => by
  cases a <;> cases b <;> cases e
  exact ⟨_, _, rfl, rfl, rfl⟩) fun _ _ _ _ => .bl _
theorem od_gt : Od K w1 w2 (rI0 fun i j => .bl (decide (j < i))) dGt := od_int0 (g := fun i j => .bl (decide (j < i))) (fun a b c e => by
  cases a <;> cases b <;> cases e
  exact ⟨_, _, rfl, rfl, rfl⟩) fun _ _ _ _ => .bl _
theorem od_ge : Od K w1 w2 (rI0 fun i j => .bl (decide (j ≤ i))) dGe := od_int0 (g := fun i j => .bl (decide (j ≤ i))) (fun a b c e => by
  cases a <;> cases b <;> cases e
  exact ⟨_, _, rfl, rfl, rfl⟩) fun _ _ _ _ => .bl _
def isNon : D → Bool
  | .non => true
  | _ => false
def dIs (a b : D) : Option D := match b with
  | .non => some (.bl (isNon a))
  | _ => none
def dIsNot (a b : D) : Option D := match b with
  | .non => some (.bl (!(isNon a)))
  | _ => none
theorem non_dec {O : Addr → Prop} {H : Hp} {x : V} {a : D} (r : RepW w1 K O H x a) : decide (x = V.non) = isNon a := by
  cases a with
  | non => rw [r.non_inv]; simp [isNon]
  | bl b => rw [r.bl_inv]; simp [isNon]
  | int b => rw [r.int_inv]; simp [isNon]
  | str b => rw [r.str_inv]; simp [isNon]
  | tup b => obtain ⟨_, _, rfl, _⟩ := r.tup_inv; simp [isNon]
  | lst b => obtain ⟨_, _, rfl, _⟩ := r.lst_inv; simp [isNon]
theorem od_is : Od K w1 w2 (fun x y H Q => y = .non ∧ Q (.bl (decide (x = .non))) H) dIs := by
  intro O H x y a b c Q al r1 r2 e hq
  cases b <;> cases e
  refine ⟨r2.non_inv, ?_⟩
  rw [non_dec r1]
  exact hq _ H (same_refl H) (.bl _)
theorem od_isNot : Od K w1 w2 (fun x y H Q => y = .non ∧ Q (.bl (!decide (x = .non))) H) dIsNot := by
  intro O H x y a b c Q al r1 r2 e hq
  cases b <;> cases e
  refine ⟨r2.non_inv, ?_⟩
  rw [non_dec r1]
  exact hq _ H (same_refl H) (.bl _)
def rIxA (K : PySem.W.Frag) : R2 := fun x y H Q => rIxL K x y H Q ∨ rIxT K x y H Q
theorem ix_A : IxR X (rIxA X.K) := by
  intro value slice pins s σ H x y v u Q I rx ry h hs
  rcases h with h | h
  · exact ix_list value slice pins s σ H x y v u Q I rx ry h hs
  · exact ix_tup value slice pins s σ H x y v u Q I rx ry h hs
def dIx (a b : D) : Option D := match a, b with
  | .lst ds, .int i => (ixN ds.length i).bind fun j => ds[j]?
  | .tup ds, .int i => (ixN ds.length i).bind fun j => ds[j]?
  | _, _ => none
theorem atI_of {O : Addr → Prop} {H : Hp} {vs : List V} {ds : List D} {i : Int} {c : D} (r : Reps K O H vs ds) (e : ((ixN ds.length i).bind fun j => ds[j]?) = some c) : ∃ v, atI vs i = some v ∧ Rep K O H v c := by
  cases q : ixN ds.length i with
  | none => rw [q] at e; cases e
  | some j =>
    rw [q] at e
    obtain ⟨v, h1, h2⟩ := r.at_ (i := j) e
    exact ⟨v, by unfold atI; rw [r.length, q]; exact h1, h2⟩
theorem od_ix : Od K w1 w2 (rIxA K) dIx := by
  intro O H x y a b c Q al r1 r2 e hq
  cases a <;> cases b <;> first | (cases e; done) | skip
  · obtain ⟨p, vs, rfl, h1, h2⟩ := r1.tup_inv
    obtain ⟨v, h3, h4⟩ := atI_of h2 e
    exact .inr ⟨p, vs, _, v, rfl, r2.int_inv, h1.sq, h3, hq v H (same_refl H) h4⟩
  · obtain ⟨p, vs, rfl, h1, h2⟩ := r1.lst_inv
    obtain ⟨v, h3, h4⟩ := atI_of h2 e
    exact .inl ⟨p, vs, _, v, rfl, r2.int_inv, h1, h3, hq v H (same_refl H) h4⟩
theorem ev_ix {E : XK} {p q : Bool} {a b : Expr} {fa fb : ES} {pos : Pos} (ha : EV X E p w1 a fa) (hb : EV X E q w2 b fb) (hs : PlainIx b := by intro _ _; rfl) (hw : (!w1 || q) = true := by rfl) : EV X E (p && q) w (.Subscript a b pos) (eOp dIx fa fb) := by
  obtain ⟨ta, pa, ra⟩ := ha.ex
  obtain ⟨tb, pb, rb⟩ := hb.ex
  refine ⟨_, pe_ix ix_A pa pb hs, fun O W σ H ρ Q s h => ?_⟩
  refine bin2 ra rb hw s (h.bind.mono (fun x hx => hx.bind.mono (fun y hy v u H' po r1 r2 => ?_) fun _ _ z => z) fun _ _ z => z)
  obtain ⟨z, ez, hz⟩ := hy.bind.ofO
  exact od_ix O H' v u _ _ z Q po.st.al r1 r2 ez fun v' H2 sm r => hz v' H2 (po.more sm) (.inl r)
structure OV (X : Cx) (E : XK) (p : Bool) (e : Option Expr) (f : List B → Rs (Option Int × List B)) : Prop where
  ex : ∃ t, PO X e t ∧ ∀ (O W : Addr → Prop) (σ : St) (H : Hp) (ρ : List B) (Q : Option Int → Hp → Prop), StR X.K O W σ H ρ →
    Wr (f ρ) (fun r => ∀ H', Post p X.K O W σ H H' ρ r.2 → Q r.1 H') (EX X E O W H) → t σ H Q
def oNo : List B → Rs (Option Int × List B) := fun ρ => .ok (none, ρ)
def oAt (f : ES) : List B → Rs (Option Int × List B) := fun ρ => (f ρ).bind fun x => match x.1 with
  | .int i => .ok (some i, x.2)
  | _ => .bad
theorem ov_no {E : XK} : OV X E true none oNo := ⟨_, po_none, fun O W σ H ρ Q s h => h H (Post.refl s)⟩
theorem ov_at {E : XK} {p : Bool} {e : Expr} {f : ES} (h : EV X E p w e f) : OV X E p (some e) (oAt f) := by
  obtain ⟨t, pt, rt⟩ := h.ex
  refine ⟨_, po_some pt, fun O W σ H ρ Q s h => ?_⟩
  refine rt O W σ H ρ _ s (h.bind.mono (fun x hx v H1 po r => ?_) fun _ _ z => z)
  obtain ⟨d, ρ1⟩ := x
  cases d with
  | int i => exact ⟨i, r.int_inv, hx H1 po⟩
  | _ => exact hx.elim
def cutD (xs : List D) (lo hi : Option Int) : List D := (xs.drop (HT.sIx xs.length 0 lo)).take (HT.sIx xs.length xs.length hi - HT.sIx xs.length 0 lo)
theorem Reps.cut {O : Addr → Prop} {H : Hp} {vs : List V} {ds : List D} (r : Reps K O H vs ds) (lo hi : Option Int) : Reps K O H (cutV vs lo hi) (cutD ds lo hi) := by
  unfold cutV cutD
  rw [r.length]
  exact (r.drop _).take _
def rSlAll (K : PySem.W.Frag) : V → Option Int → Option Int → Hp → VK → Prop := fun x lo hi H Q => rSlL K x lo hi H Q ∨ rSlA K x lo hi H Q
theorem sl_A : SlR X (rSlAll X.K) := SlR.or sl_list sl_tupA
def dSl (a : D) (lo hi : Option Int) : Option D := match a with
  | .lst ds => some (.lst (cutD ds lo hi))
  | .tup ds => some (.tup (cutD ds lo hi))
  | _ => none
def eSl (f : ES) (a b : List B → Rs (Option Int × List B)) : ES := fun ρ => (f ρ).bind fun x => (a x.2).bind fun y => (b y.2).bind fun z => (ofO (dSl x.1 y.1 z.1)).bind fun d => .ok (d, z.2)
theorem cut_whole {vs : List V} {lo hi : Option Int} (h : HT.sIx vs.length 0 lo = 0 ∧ HT.sIx vs.length vs.length hi = vs.length) : cutV vs lo hi = vs := by
  unfold cutV
  rw [h.1, h.2]
  simp
theorem ev_sl {E : XK} {p q p3 : Bool} {a : Expr} {lo hi : Option Expr} {fa : ES} {fl fh : List B → Rs (Option Int × List B)} {p2 pos : Pos} (ha : EV X E p w1 a fa) (hl : OV X E q lo fl) (hh : OV X E p3 hi fh) (hw : (!w1 || (q && p3)) = true := by rfl) : EV X E (p && (q && p3)) w (.Subscript a (.Slice lo hi none p2) pos) (eSl fa fl fh) := by
  obtain ⟨ta, pa, ra⟩ := ha.ex
  obtain ⟨tl, pl, rl⟩ := hl.ex
  obtain ⟨th, ph, rh⟩ := hh.ex
  refine ⟨_, pe_slice sl_A pa pl ph, fun O W σ H ρ Q s h => ?_⟩
  refine ra O W σ H ρ _ s (h.bind.mono (fun x hx v H1 po r => ?_) fun _ _ z => z)
  refine rl O W σ H1 x.2 _ po.st (hx.bind.mono (fun y hy H2 po2 => ?_) fun _ _ z => z.on po.ext)
  have po12 := po.trans po2
  refine rh O W σ H2 y.2 _ po2.st (hy.bind.mono (fun z hz H3 po3 => ?_) fun _ _ z => z.on po12.ext)
  obtain ⟨d, ed, hd⟩ := hz.bind.ofO
  have po23 := po2.trans po3
  have pa := po.trans po23
  have r3 := po23.keepW hw r
  obtain ⟨dx, ρx⟩ := x
  cases dx with
  | lst ds =>
    cases ed
    obtain ⟨b, vs, rfl, h1, h2⟩ := r3.lst_inv
    exact .inl ⟨b, vs, rfl, h1, fun p hp => hd _ _ (pa.more (same_new hp)) (.inl (Rep.newL po3.st.al hp (h2.cut _ _)))⟩
  | tup ds =>
    cases ed
    obtain ⟨b, vs, rfl, h1, h2⟩ := r3.tup_inv
    refine .inr ⟨b, vs, rfl, h1.sq, fun hwh => ?_, fun _ p hp => hd _ _ (pa.more (same_new hp)) (.inl (Rep.newT po3.st.al hp (h2.cut _ _)))⟩
    have e : cutV vs y.1 z.1 = vs := cut_whole hwh
    have h2' := h2.cut y.1 z.1
    rw [e] at h2'
    exact hd _ _ pa (.inl (.tup h1 h2'))
  | _ => cases ed
theorem ev_blt {E : XK} {p : Bool} {id : String} {x : Str} {e : Expr} {es : List Expr} {ar : AS} {r : List V → Hp → VK → Prop} {f : List D → Option D} {pp pos : Pos} (hc : CallR X (.builtin id) r) (hd : Cd X.K w1 r f) (ha : AV X E p w1 (e :: es) ar) (hg : Gl X x) (hm : X.mg x = none)
    (hv : bootBuiltins x = some (.builtin id) := by decide +kernel) (hn : x ≠ "__name__" := by decide) (hdb : (x == ("__debug__" : Str)) = false := by decide)
    (he : starEach (e :: es) X.env = (false, eval e X.env) :: starEach es X.env := by rfl) (hpl : (backTo pos (starEach es X.env)).any (·.1) = false := by rfl) : EV X E p w (.Call (.Name x pp) (e :: es) [] pos) (eBlt f ar) := by
  obtain ⟨t, pt, rt⟩ := ha.ex
  refine ⟨_, pe_callB hc hg hm hv pt hn hdb he hpl, fun O W σ H ρ Q s h => ?_⟩
  refine rt O W σ H ρ _ s (h.bind.mono (fun x hx vs H1 po r => ?_) fun _ _ z => z)
  obtain ⟨z, ez, hz⟩ := hx.bind.ofO
  exact hd O H1 vs _ z Q po.st.al r ez fun v H' sm r => hz v H' (po.more sm) (.inl r)
theorem ev_ty {E : XK} {p : Bool} {T : String} {x : Str} {e : Expr} {es : List Expr} {ar : AS} {r : List V → Hp → VK → Prop} {f : List D → Option D} {pp pos : Pos} (hc : CallR X (.type T) r) (hd : Cd X.K w1 r f) (ha : AV X E p w1 (e :: es) ar) (hg : Gl X x) (hm : X.mg x = none)
    (hv : bootBuiltins x = some (.type T) := by decide +kernel) (hn : x ≠ "__name__" := by decide) (hdb : (x == ("__debug__" : Str)) = false := by decide)
    (he : starEach (e :: es) X.env = (false, eval e X.env) :: starEach es X.env := by rfl) (hpl : (backTo pos (starEach es X.env)).any (·.1) = false := by rfl) : EV X E p w (.Call (.Name x pp) (e :: es) [] pos) (eBlt f ar) := by
  obtain ⟨t, pt, rt⟩ := ha.ex
  refine ⟨_, pe_callTy hc hg hm hv pt hn hdb he hpl, fun O W σ H ρ Q s h => ?_⟩
  refine rt O W σ H ρ _ s (h.bind.mono (fun x hx vs H1 po r => ?_) fun _ _ z => z)
  obtain ⟨z, ez, hz⟩ := hx.bind.ofO
  exact hd O H1 vs _ z Q po.st.al r ez fun v H' sm r => hz v H' (po.more sm) (.inl r)
theorem eo_blt {E : XK} {p : Bool} {id : String} {x : Str} {e : Expr} {es : List Expr} {ar : AS} {r : List V → Hp → VK → Prop} {f : List D → Option (List D)} {pp pos : Pos} (hc : CallR X (.builtin id) r) (hd : Co X.K w1 r f) (ha : AV X E p w1 (e :: es) ar) (hg : Gl X x) (hm : X.mg x = none)
    (hv : bootBuiltins x = some (.builtin id) := by decide +kernel) (hn : x ≠ "__name__" := by decide) (hdb : (x == ("__debug__" : Str)) = false := by decide)
    (he : starEach (e :: es) X.env = (false, eval e X.env) :: starEach es X.env := by rfl) (hpl : (backTo pos (starEach es X.env)).any (·.1) = false := by rfl) : EO X E p (.Call (.Name x pp) (e :: es) [] pos) (oBlt f ar) := by
  obtain ⟨t, pt, rt⟩ := ha.ex
  refine ⟨_, pe_callB hc hg hm hv pt hn hdb he hpl, fun O W σ H ρ Q s h => ?_⟩
  refine rt O W σ H ρ _ s (h.bind.mono (fun x hx vs H1 po r => ?_) fun _ _ z => z)
  obtain ⟨z, ez, hz⟩ := hx.bind.ofO
  exact hd O H1 vs _ z Q po.st.al r ez fun q us n r => eo_end hz po q us n r (po.free' n)
theorem eo_ty {E : XK} {p : Bool} {T : String} {x : Str} {e : Expr} {es : List Expr} {ar : AS} {r : List V → Hp → VK → Prop} {f : List D → Option (List D)} {pp pos : Pos} (hc : CallR X (.type T) r) (hd : Co X.K w1 r f) (ha : AV X E p w1 (e :: es) ar) (hg : Gl X x) (hm : X.mg x = none)
    (hv : bootBuiltins x = some (.type T) := by decide +kernel) (hn : x ≠ "__name__" := by decide) (hdb : (x == ("__debug__" : Str)) = false := by decide)
    (he : starEach (e :: es) X.env = (false, eval e X.env) :: starEach es X.env := by rfl) (hpl : (backTo pos (starEach es X.env)).any (·.1) = false := by rfl) : EO X E p (.Call (.Name x pp) (e :: es) [] pos) (oBlt f ar) := by
  obtain ⟨t, pt, rt⟩ := ha.ex
  refine ⟨_, pe_callTy hc hg hm hv pt hn hdb he hpl, fun O W σ H ρ Q s h => ?_⟩
  refine rt O W σ H ρ _ s (h.bind.mono (fun x hx vs H1 po r => ?_) fun _ _ z => z)
  obtain ⟨z, ez, hz⟩ := hx.bind.ofO
  exact hd O H1 vs _ z Q po.st.al r ez fun q us n r => eo_end hz po q us n r (po.free' n)
theorem one_of {O : Addr → Prop} {H : Hp} {xs : List V} {a : D} (r : Paired (RepW w K O H) xs [a]) : ∃ x, xs = [x] ∧ RepW w K O H x a := by
  cases r with
  | cons r t => cases t; exact ⟨_, rfl, r⟩
theorem two_of {O : Addr → Prop} {H : Hp} {xs : List V} {a b : D} (r : Paired (RepW w K O H) xs [a, b]) : ∃ x y, xs = [x, y] ∧ RepW w K O H x a ∧ RepW w K O H y b := by
  cases r with
  | cons r t =>
    cases t with
    | cons r2 t => cases t; exact ⟨_, _, rfl, r, r2⟩
def dLen : List D → Option D
  | [.lst ds] => some (.int ds.length)
  | [.tup ds] => some (.int ds.length)
  | [.str x] => if x.length ≤ sizeLine then some (.int x.length) else none
  | _ => none
def rLenA (K : PySem.W.Frag) : List V → Hp → VK → Prop := fun xs H Q => (∃ p ys, xs = [.ref p] ∧ (SqL K H p ys ∨ SqT K H p ys) ∧ Q (.int ys.length) H) ∨ (∃ z, xs = [.str z] ∧ z.length ≤ sizeLine ∧ Q (.int z.length) H)
theorem cr_len : CallR X (.builtin "len") (rLenA X.K) := call_len_seq.or call_len_str
theorem cd_len : Cd K w (rLenA K) dLen := by
  intro O H xs as c Q al r e hq
  match as, r, e with
  | [.lst ds], r, e =>
    cases e
    obtain ⟨x, rfl, rr⟩ := one_of r
    obtain ⟨a, vs, rfl, h1, h2⟩ := rr.lst_inv
    exact .inl ⟨a, vs, rfl, .inl h1, by rw [h2.length]; exact hq _ H (same_refl H) (.int _)⟩
  | [.tup ds], r, e =>
    cases e
    obtain ⟨x, rfl, rr⟩ := one_of r
    obtain ⟨a, vs, rfl, h1, h2⟩ := rr.tup_inv
    exact .inl ⟨a, vs, rfl, .inr h1.sq, by rw [h2.length]; exact hq _ H (same_refl H) (.int _)⟩
  | [.str z], r, e =>
    obtain ⟨x, rfl, rr⟩ := one_of r
    have e : (if z.length ≤ sizeLine then some (D.int z.length) else none) = some c := e
    split at e
    · cases e
      rw [rr.str_inv]
      exact .inr ⟨z, rfl, by assumption, hq _ H (same_refl H) (.int _)⟩
    · cases e
def dAll : List D → Option D
  | [.lst ds] => (boolsD ds).map fun bs => .bl (bs.all id)
  | _ => none
def dAny : List D → Option D
  | [.lst ds] => (boolsD ds).map fun bs => .bl (bs.any id)
  | _ => none
def dSum : List D → Option D
  | [.lst ds] => (intsD ds).map fun bs => .int bs.sum
  | _ => none
theorem cd_all : Cd K w (rAll K) dAll := by
  intro O H xs as c Q al r e hq
  match as, r, e with
  | [.lst ds], r, e =>
    have e : (boolsD ds).map (fun bs => D.bl (bs.all id)) = some c := e
    cases q : boolsD ds with
    | none => rw [q] at e; cases e
    | some bs =>
      rw [q] at e
      cases e
      obtain ⟨x, rfl, rr⟩ := one_of r
      obtain ⟨a, vs, rfl, h1, h2⟩ := rr.lst_inv
      rw [bools_reps h2 q] at h1
      exact ⟨a, bs, rfl, h1, hq _ H (same_refl H) (.bl _)⟩
theorem cd_any : Cd K w (rAny K) dAny := by
  intro O H xs as c Q al r e hq
  match as, r, e with
  | [.lst ds], r, e =>
    have e : (boolsD ds).map (fun bs => D.bl (bs.any id)) = some c := e
    cases q : boolsD ds with
    | none => rw [q] at e; cases e
    | some bs =>
      rw [q] at e
      cases e
      obtain ⟨x, rfl, rr⟩ := one_of r
      obtain ⟨a, vs, rfl, h1, h2⟩ := rr.lst_inv
      rw [bools_reps h2 q] at h1
      exact ⟨a, bs, rfl, h1, hq _ H (same_refl H) (.bl _)⟩
theorem cd_sum : Cd K w (rSum K) dSum := by
  intro O H xs as c Q al r e hq
  match as, r, e with
  | [.lst ds], r, e =>
    have e : (intsD ds).map (fun bs => D.int bs.sum) = some c := e
    cases q : intsD ds with
    | none => rw [q] at e; cases e
    | some bs =>
      rw [q] at e
      cases e
      obtain ⟨x, rfl, rr⟩ := one_of r
      obtain ⟨a, vs, rfl, h1, h2⟩ := rr.lst_inv
      rw [ints_reps h2 q] at h1
      exact ⟨a, bs, rfl, h1, hq _ H (same_refl H) (.int _)⟩
def maxL : List Int → Option Int
  | [] => none
  | n :: ns => some (ns.foldl (fun a b => if b > a then b else a) n)
def minL : List Int → Option Int
  | [] => none
  | n :: ns => some (ns.foldl (fun a b => if b < a then b else a) n)
def dMax : List D → Option D
  | [.int i, .int j] => some (.int (if j > i then j else i))
  | [.lst ds] => ((intsD ds).bind maxL).map .int
  | _ => none
def dMin : List D → Option D
  | [.int i, .int j] => some (.int (if j < i then j else i))
  | [.lst ds] => ((intsD ds).bind minL).map .int
  | _ => none
theorem maxgo : ∀ (ns : List Int) (n m : Int), (∀ y ∈ ns, y ≤ m) → n ≤ m → (m = n ∨ m ∈ ns) → ns.foldl (fun a b => if b > a then b else a) n = m
  | [], n, m, _, _, h => by
    rcases h with h | h
    · exact h.symm
    · cases h
  | k :: ns, n, m, h1, h2, h3 => by
    have hk := h1 k List.mem_cons_self
    have h1' : ∀ y ∈ ns, y ≤ m := fun y hy => h1 y (List.mem_cons_of_mem _ hy)
    rw [List.foldl_cons]
    by_cases hkn : k > n
    · rw [if_pos hkn]
      refine maxgo ns k m h1' hk ?_
      rcases h3 with h3 | h3
      · omega
      · rcases List.mem_cons.mp h3 with h | h
        · exact .inl h
        · exact .inr h
    · rw [if_neg hkn]
      refine maxgo ns n m h1' h2 ?_
      rcases h3 with h3 | h3
      · exact .inl h3
      · rcases List.mem_cons.mp h3 with h | h
        · exact .inl (by omega)
        · exact .inr h
theorem mingo : ∀ (ns : List Int) (n m : Int), (∀ y ∈ ns, m ≤ y) → m ≤ n → (m = n ∨ m ∈ ns) → ns.foldl (fun a b => if b < a then b else a) n = m
  | [], n, m, _, _, h => by
    rcases h with h | h
    · exact h.symm
    · cases h
  | k :: ns, n, m, h1, h2, h3 => by
    have hk := h1 k List.mem_cons_self
    have h1' : ∀ y ∈ ns, m ≤ y := fun y hy => h1 y (List.mem_cons_of_mem _ hy)
    rw [List.foldl_cons]
    by_cases hkn : k < n
    · rw [if_pos hkn]
      refine mingo ns k m h1' hk ?_
      rcases h3 with h3 | h3
      · omega
      · rcases List.mem_cons.mp h3 with h | h
        · exact .inl h
        · exact .inr h
    · rw [if_neg hkn]
      refine mingo ns n m h1' h2 ?_
      rcases h3 with h3 | h3
      · exact .inl h3
      · rcases List.mem_cons.mp h3 with h | h
        · exact .inl (by omega)
        · exact .inr h
def rMaxA (K : PySem.W.Frag) : List V → Hp → VK → Prop := fun xs H Q => (∃ i j, xs = [.int i, .int j] ∧ Q (.int (if j > i then j else i)) H) ∨ rMax K xs H Q
def rMinA (K : PySem.W.Frag) : List V → Hp → VK → Prop := fun xs H Q => (∃ i j, xs = [.int i, .int j] ∧ Q (.int (if j < i then j else i)) H) ∨ rMin K xs H Q
theorem cr_maxA (hc : X.calm = true) : CallR X (.builtin "max") (rMaxA X.K) := (call_max2 hc).or (cr_max hc)
theorem cr_minA (hc : X.calm = true) : CallR X (.builtin "min") (rMinA X.K) := (call_min2 hc).or (cr_min hc)
theorem cd_max : Cd K w (rMaxA K) dMax := by
  intro O H xs as c Q al r e hq
  match as, r, e with
  | [.int i, .int j], r, e =>
    cases e
    obtain ⟨x, y, rfl, rr, r'⟩ := two_of r
    rw [rr.int_inv, r'.int_inv]
    exact .inl ⟨i, j, rfl, hq _ H (same_refl H) (.int _)⟩
  | [.lst ds], r, e =>
    have e : ((intsD ds).bind maxL).map D.int = some c := e
    cases q : intsD ds with
    | none => rw [q] at e; cases e
    | some bs =>
      rw [q] at e
      obtain ⟨x, rfl, rr⟩ := one_of r
      obtain ⟨a, vs, rfl, h1, h2⟩ := rr.lst_inv
      rw [ints_reps h2 q] at h1
      cases bs with
      | nil => cases e
      | cons n ns =>
        refine .inr ⟨a, n :: ns, rfl, h1, by simp, fun m hm hb => ?_⟩
        have := maxgo ns n m (fun y hy => hb y (List.mem_cons_of_mem _ hy)) (hb n List.mem_cons_self) (List.mem_cons.mp hm)
        cases e
        rw [← this]
        exact hq _ H (same_refl H) (.int _)
theorem cd_min : Cd K w (rMinA K) dMin := by
  intro O H xs as c Q al r e hq
  match as, r, e with
  | [.int i, .int j], r, e =>
    cases e
    obtain ⟨x, y, rfl, rr, r'⟩ := two_of r
    rw [rr.int_inv, r'.int_inv]
    exact .inl ⟨i, j, rfl, hq _ H (same_refl H) (.int _)⟩
  | [.lst ds], r, e =>
    have e : ((intsD ds).bind minL).map D.int = some c := e
    cases q : intsD ds with
    | none => rw [q] at e; cases e
    | some bs =>
      rw [q] at e
      obtain ⟨x, rfl, rr⟩ := one_of r
      obtain ⟨a, vs, rfl, h1, h2⟩ := rr.lst_inv
      rw [ints_reps h2 q] at h1
      cases bs with
      | nil => cases e
      | cons n ns =>
        refine .inr ⟨a, n :: ns, rfl, h1, by simp, fun m hm hb => ?_⟩
        have := mingo ns n m (fun y hy => hb y (List.mem_cons_of_mem _ hy)) (hb n List.mem_cons_self) (List.mem_cons.mp hm)
        cases e
        rw [← this]
        exact hq _ H (same_refl H) (.int _)
def dAbs : List D → Option D
  | [.int i] => some (.int (if i < 0 then -i else i))
  | _ => none
def dInt : List D → Option D
  | [.int i] => some (.int i)
  | [.bl k] => some (.int (if k then 1 else 0))
  | _ => none
theorem cd_abs : Cd K w (fun xs H Q => ∃ i, xs = [.int i] ∧ Q (.int (if i < 0 then -i else i)) H) dAbs := by
  intro O H xs as c Q al r e hq
  match as, r, e with
  | [.int i], r, e =>
    cases e
    obtain ⟨x, rfl, rr⟩ := one_of r
    rw [rr.int_inv]
    exact ⟨i, rfl, hq _ H (same_refl H) (.int _)⟩
theorem cd_int : Cd K w (fun xs H Q => (∃ i, xs = [.int i] ∧ Q (.int i) H) ∨ ∃ k, xs = [.bl k] ∧ Q (.int (if k then 1 else 0)) H) dInt := by
  intro O H xs as c Q al r e hq
  match as, r, e with
  | [.int i], r, e =>
    cases e
    obtain ⟨x, rfl, rr⟩ := one_of r
    rw [rr.int_inv]
    exact .inl ⟨i, rfl, hq _ H (same_refl H) (.int _)⟩
  | [.bl i], r, e =>
    cases e
    obtain ⟨x, rfl, rr⟩ := one_of r
    rw [rr.bl_inv]
    exact .inr ⟨i, rfl, hq _ H (same_refl H) (.int _)⟩
def dTuple : List D → Option D
  | [.lst ds] => some (.tup ds)
  | [.tup ds] => some (.tup ds)
  | _ => none
theorem cd_tuple : Cd K w (fun xs H Q => ∃ p ys, xs = [.ref p] ∧ ((SqL K H p ys ∧ ∀ l, H l = none → Q (.ref l) (upd H l (.tup ys))) ∨ (SqT K H p ys ∧ Q (.ref p) H))) dTuple := by
  intro O H xs as c Q al r e hq
  match as, r, e with
  | [.lst ds], r, e =>
    cases e
    obtain ⟨x, rfl, rr⟩ := one_of r
    obtain ⟨a, vs, rfl, h1, h2⟩ := rr.lst_inv
    exact ⟨a, vs, rfl, .inl ⟨h1, fun l hl => hq _ _ (same_new hl) (Rep.newT al hl h2)⟩⟩
  | [.tup ds], r, e =>
    cases e
    obtain ⟨x, rfl, rr⟩ := one_of r
    obtain ⟨a, vs, rfl, h1, h2⟩ := rr.tup_inv
    exact ⟨a, vs, rfl, .inr ⟨h1.sq, hq _ H (same_refl H) (.tup h1 h2)⟩⟩
def dList : List D → Option (List D)
  | [.lst ds] => some ds
  | [.tup ds] => some ds
  | _ => none
theorem co_list : Co K w (fun xs H Q => ∃ p ys, xs = [.ref p] ∧ (SqL K H p ys ∨ SqT K H p ys) ∧ ∀ l, H l = none → Q (.ref l) (upd H l (.lst ys))) dList := by
  intro O H xs as c Q al r e hq
  match as, r, e with
  | [.lst ds], r, e =>
    cases e
    obtain ⟨x, rfl, rr⟩ := one_of r
    obtain ⟨a, vs, rfl, h1, h2⟩ := rr.lst_inv
    exact ⟨a, vs, rfl, .inl h1, fun l hl => hq _ _ hl h2⟩
  | [.tup ds], r, e =>
    cases e
    obtain ⟨x, rfl, rr⟩ := one_of r
    obtain ⟨a, vs, rfl, h1, h2⟩ := rr.tup_inv
    exact ⟨a, vs, rfl, .inr h1.sq, fun l hl => hq _ _ hl h2⟩
def insI (i : Int) : List Int → List Int
  | [] => [i]
  | j :: r => if i ≤ j then i :: j :: r else j :: insI i r
def sortI : List Int → List Int
  | [] => []
  | i :: r => insI i (sortI r)
theorem insI_perm (i : Int) : ∀ l, (insI i l).Perm (i :: l)
  | [] => .refl _
  | j :: r => by
    unfold insI
    split
    · exact .refl _
    · exact ((insI_perm i r).cons j).trans (.swap i j r)
theorem insI_sorted (i : Int) : ∀ l : List Int, l.Pairwise (· ≤ ·) → (insI i l).Pairwise (· ≤ ·)
  | [], _ => by unfold insI; simp
  | j :: r, h => by
    unfold insI
    obtain ⟨h1, h2⟩ := List.pairwise_cons.mp h
    split
    · rename_i hij
      refine List.pairwise_cons.mpr ⟨fun k hk => ?_, h⟩
      rcases List.mem_cons.mp hk with e | e
      · rw [e]; exact hij
      · exact Int.le_trans hij (h1 k e)
    · rename_i hij
      refine List.pairwise_cons.mpr ⟨fun k hk => ?_, insI_sorted i r h2⟩
      rcases List.mem_cons.mp ((insI_perm i r).mem_iff.mp hk) with e | e
      · rw [e]; omega
      · exact h1 k e
theorem sortI_perm : ∀ l, (sortI l).Perm l
  | [] => .refl _
  | i :: r => (insI_perm i _).trans ((sortI_perm r).cons i)
theorem sortI_sorted : ∀ l, (sortI l).Pairwise (· ≤ ·)
  | [] => .nil
  | i :: r => insI_sorted i _ (sortI_sorted r)
theorem sorted_eq : ∀ {l l' : List Int}, l.Perm l' → l.Pairwise (· ≤ ·) → l'.Pairwise (· ≤ ·) → l = l'
  | [], l', h, _, _ => (List.nil_perm.mp h).symm
  | i :: r, [], h, _, _ => (List.cons_ne_nil _ _ (List.perm_nil.mp h)).elim
  | i :: r, j :: r', h, h1, h2 => by
    obtain ⟨a1, a2⟩ := List.pairwise_cons.mp h1
    obtain ⟨b1, b2⟩ := List.pairwise_cons.mp h2
    have e1 : j ≤ i := by
      rcases List.mem_cons.mp (h.mem_iff.mp List.mem_cons_self) with e | e
      · omega
      · exact b1 i e
    have e2 : i ≤ j := by
      rcases List.mem_cons.mp (h.mem_iff.mpr List.mem_cons_self) with e | e
      · omega
      · exact a1 j e
    have e : i = j := by omega
    subst e
    rw [sorted_eq ((List.perm_cons i).mp h) a2 b2]
def dSorted : List D → Option (List D)
  | [.lst ds] => (intsD ds).map fun ns => (sortI ns).map D.int
  | _ => none
theorem co_sorted : Co K w (rSortedI K) dSorted := by
  intro O H xs as c Q al r e hq
  match as, r, e with
  | [.lst ds], r, e =>
    have e : (intsD ds).map (fun ns => (sortI ns).map D.int) = some c := e
    cases q : intsD ds with
    | none => rw [q] at e; cases e
    | some bs =>
      rw [q] at e
      cases e
      obtain ⟨x, rfl, rr⟩ := one_of r
      obtain ⟨a, vs, rfl, h1, h2⟩ := rr.lst_inv
      rw [ints_reps h2 q] at h1
      refine ⟨a, bs, rfl, h1, fun ns' p hp hs hl => ?_⟩
      rw [sorted_eq (hp.trans (sortI_perm bs).symm) hs (sortI_sorted bs)]
      exact hq _ _ hl (reps_ints _)
def rRepr (K : PySem.W.Frag) : List V → Hp → VK → Prop := fun xs H Q => ∃ v d, xs = [v] ∧ Dp K H v d ∧ d.showable = true ∧ d.hasDict = false ∧ d.depth < 60 ∧ d.shown.length ≤ sizeLine ∧ Q (.str d.shown) H
end
end RT
namespace RT
open PySem PySem.Spec PyProof.Rows L2
section
variable {K : PySem.W.Frag} {w w1 w2 : Bool} {X : Cx} {E : XK} {p q p3 : Bool} {a b e : Expr} {es : List Expr} {fa fb fe : ES} {ar : AS} {pos pp apos cpos : Pos}
def tyD : D → String
  | .non => "NoneType"
  | .bl _ => "bool"
  | .int _ => "int"
  | .str _ => "str"
  | .tup _ => "tuple"
  | .lst _ => "list"
theorem RepW.ty {O : Addr → Prop} {H : Hp} {v : V} {d : D} (r : RepW w K O H v d) : TyX K H v (.type (tyD d)) := by
  cases d with
  | non => rw [r.non_inv]; exact .base .non
  | bl b => rw [r.bl_inv]; exact .base (.bl b)
  | int b => rw [r.int_inv]; exact .base (.int b)
  | str b => rw [r.str_inv]; exact .base (.str b)
  | tup b =>
    obtain ⟨a, vs, rfl, h, _⟩ := r.tup_inv
    rcases h with ⟨h | ⟨o, h⟩, _⟩ | ⟨o, its, n, h1, h2, _⟩
    · exact .base (.tup h)
    · exact .fTuple h
    · exact .kTuple h1 h2
  | lst b =>
    obtain ⟨a, vs, rfl, h, _⟩ := r.lst_invR
    rcases h with (h | ⟨o, h⟩) | ⟨o, its, n, h1, h2, _⟩
    · exact .base (.lst h)
    · exact .base (.frz h)
    · exact .kList h1 h2
def dIsi (T : String) (d : D) : Option D := (kitB (tyD d) T).map .bl
theorem ev_isi (T : String) {x : Str} (ha : EV X E p w1 a fa) (hg : Gl X "isinstance") (hm : X.mg "isinstance" = none) (hg2 : Gl X x) (hm2 : X.mg x = none) (hv : bootBuiltins x = some (.type T) := by decide +kernel)
    (hn : x ≠ "__name__" := by decide) (hdb : (x == ("__debug__" : Str)) = false := by decide)
    (he : starEach [a, .Name x pos] X.env = (false, eval a X.env) :: starEach [.Name x pos] X.env := by rfl) (he2 : starEach [.Name x pos] X.env = (false, eval (.Name x pos) X.env) :: starEach [] X.env := by rfl) (hpl : (backTo cpos (starEach [.Name x pos] X.env)).any (·.1) = false := by rfl) :
    EV X E p w (.Call (.Name "isinstance" pp) [a, .Name x pos] [] cpos) (eUn (dIsi T) fa) := by
  obtain ⟨t, pt, rt⟩ := ha.ex
  refine ⟨_, pe_callB call_isi hg hm (by decide +kernel) (pa_cons pt (pa_cons (pe_bltn (v := .ty T) hg2 hm2 hv rfl hn hdb) pa_nil he2) he) (by decide) (by decide) he hpl, fun O W σ H ρ Q s h => ?_⟩
  refine rt O W σ H ρ _ s (h.bind.mono (fun x hx v H1 po r => ?_) fun _ _ z => z)
  obtain ⟨z, ez, hz⟩ := hx.bind.ofO
  unfold dIsi at ez
  cases ek : kitB (tyD x.1) T with
  | none => rw [ek] at ez; cases ez
  | some k =>
    rw [ek] at ez
    cases ez
    exact ⟨v, .ty T, .type (tyD x.1), .type T, k, rfl, .ty T, r.ty, kit_ty ek, hz _ H1 po (.inl (.bl k))⟩
def reprD (d : D) : Option D := if (dP d).showable = true ∧ (dP d).hasDict = false ∧ (dP d).depth < 60 ∧ (dP d).shown.length ≤ sizeLine then some (.str (dP d).shown) else none
def dRepr : List D → Option D
  | [d] => reprD d
  | _ => none
theorem cr_repr (hgd : X.A.guards = some []) (hu : X.A.units + 64 < cLine) : CallR X (.builtin "repr") (rRepr X.K) := by
  intro pins s σ H xs us Q I r h
  obtain ⟨v, d, rfl, hd, h1, h2, h3, h4, q⟩ := h
  obtain ⟨u, rfl, r1⟩ := vals1 r
  obtain ⟨as, rd⟩ := Dp.reads I d v u hd r1
  have fin : ∀ n (t : Nat), EP X pins σ Q (.str d.shown n) { s with toks := t } := fun n t => ⟨.str d.shown, H, I.tok _, ⟨_, rfl⟩, q⟩
  have big : ∀ a, u = Value.ref a → wpAny (model X.prog X.w) X.A (call (.builtin "repr") [u]) (EP X pins σ Q) X.xe s := fun a e => by
    subst e
    exact repr_of_reads' rd h1 (fun z => by rw [h2] at z; cases z) hgd (by omega) (fun _ _ e => e) (fun h' u tk hk => ⟨.str d.shown, H, I.kept hk, ⟨_, rfl⟩, q⟩) h4
  cases hd with
  | non =>
    obtain rfl : u = Value.none := r1
    exact PySem.P.repr_of_none (fin _ _)
  | bl b =>
    obtain rfl : u = Value.bool b := r1
    exact PySem.P.repr_of_bool (fin _ _)
  | int i =>
    obtain ⟨t, rfl⟩ := r1
    exact PySem.P.repr_of_int (by simpa [PyData.showable] using h1) (fin _ _)
  | str x =>
    obtain ⟨t, rfl⟩ := r1
    exact PySem.P.repr_of_str (fin _ _) h4
  | lst h t => exact big _ r1
  | tup h t => exact big _ r1
theorem cd_repr : Cd K w (rRepr K) dRepr := by
  intro O H xs as c Q al r e hq
  match as, r, e with
  | [d], r, e =>
    obtain ⟨x, rfl, rr⟩ := one_of r
    have e : reprD d = some c := e
    unfold reprD at e
    split at e
    · rename_i hh
      cases e
      exact ⟨x, _, rfl, rr.dp, hh.1, hh.2.1, hh.2.2.1, hh.2.2.2, hq _ H (same_refl H) (.str _)⟩
    · cases e
def findI (i : Int) : List Int → Option Nat
  | [] => none
  | j :: r => if j == i then some 0 else (findI i r).map (· + 1)
def dIndex (a b : D) : Option D := match a, b with
  | .lst ds, .int i => ((intsD ds).bind (findI i)).map fun (n : Nat) => D.int n
  | _, _ => none
theorem findI_spec {i : Int} : ∀ {l : List Int} {n : Nat}, findI i l = some n → l[n]? = some i ∧ ∀ m z, m < n → l[m]? = some z → (z == i) = false
  | [], _, h => by cases h
  | j :: r, n, h => by
    unfold findI at h
    split at h
    · rename_i hj
      cases h
      exact ⟨by simpa using hj, fun m z hm => by omega⟩
    · rename_i hj
      cases e : findI i r with
      | none => rw [e] at h; cases h
      | some k =>
        rw [e] at h
        obtain rfl : k + 1 = n := Option.some.inj h
        obtain ⟨h1, h2⟩ := findI_spec e
        refine ⟨by simpa using h1, fun m z hm hz => ?_⟩
        cases m with
        | zero => simp at hz; subst hz; simpa using hj
        | succ m => exact h2 m z (by omega) (by simpa using hz)
theorem flat_ints (ns : List Int) : (ns.map V.int).all flatV = true := by
  rw [List.all_map]
  exact List.all_eq_true.mpr fun _ _ => rfl
def lstD : D → Option (List D)
  | .lst ds => some ds
  | _ => none
def eIndex (a b : ES) : ES := fun ρ => (a ρ).bind fun x => (ofO (lstD x.1)).bind fun ds => (b x.2).bind fun y => (ofO (dIndex (.lst ds) y.1)).bind fun z => .ok (z, y.2)
theorem ev_index (ha : EV X E p w1 a fa) (hb : EV X E q w2 b fb) (hw : (!w1 || q) = true := by rfl)
    (hbase : attributeBase a "index" X.env (eval a X.env) = eval a X.env := by rfl)
    (hfew : ((backTo cpos (starEach (b :: []) X.env)).all (fun x => !x.1) && (backToKw cpos (keywordEach [] X.env)).all (fun x => x.1.isSome)
      && decide ((b :: ([] : List Expr)).length + ([] : List Keyword).length + (if ([] : List Keyword).isEmpty then 0 else 1) < 30)) = true := by rfl)
    (hline : (apos.endLine == cpos.line) = true := by rfl) (hs : starEach (b :: []) X.env = (false, eval b X.env) :: starEach [] X.env := by rfl) (hpl : (backTo cpos (starEach [] X.env)).any (·.1) = false := by rfl) :
    EV X E (p && q) w (.Call (.Attribute a "index" apos) [b] [] cpos) (eIndex fa fb) := by
  obtain ⟨ta, pa, ra⟩ := ha.ex
  obtain ⟨tb, pb, rb⟩ := hb.ex
  refine ⟨_, pe_bm PySem.F.plainAttrs_list PySem.F.slot_list_index PySem.F.type_list_index (fun pins s σ H x xs v us Q I r1 r2 h => mt_index pins s σ H x xs v us Q I r1 r2 h) pa (pa_cons pb pa_nil hs) hbase hfew hline hs hpl, fun O W σ H ρ Q s h => ?_⟩
  refine ra O W σ H ρ _ s (h.bind.mono (fun x hx v H1 po r1 => ?_) fun _ _ z => z)
  obtain ⟨d, ρ1⟩ := x
  obtain ⟨ds, eds, hx⟩ := hx.bind.ofO
  cases d with
  | lst ds' =>
    cases eds
    refine ⟨?_, ?_⟩
    · obtain ⟨l, vs, rfl, h1, h2⟩ := r1.lst_inv
      exact .inl ⟨rfl, vs, h1⟩
    refine rb O W σ H1 ρ1 _ po.st (hx.bind.mono (fun y hy u H' po2 r2 => ?_) fun _ _ z => z.on po.ext)
    obtain ⟨z, ez, hz⟩ := hy.bind.ofO
    obtain ⟨l, vs, rfl, h1, h2⟩ := (po2.keepW hw r1).lst_inv
    obtain ⟨dy, ρ2⟩ := y
    cases dy with
    | int i =>
      have ez : ((intsD ds).bind (findI i)).map (fun (n : Nat) => D.int n) = some z := ez
      cases e1 : intsD ds with
      | none => rw [e1] at ez; cases ez
      | some ns =>
        rw [e1, Option.bind_some] at ez
        cases e2 : findI i ns with
        | none => rw [e2] at ez; cases ez
        | some j =>
          rw [e2] at ez
          cases ez
          rw [ints_reps h2 e1] at h1
          obtain ⟨g1, g2⟩ := findI_spec e2
          refine ⟨l, _, .int i, j, .int i, rfl, by rw [r2.int_inv], h1, rfl, flat_ints ns, by rw [List.getElem?_map, g1]; rfl, by simp [eqV], fun m z' hm hz' => ?_, hz _ H' (po.trans po2) (.inl (.int _))⟩
          rw [List.getElem?_map] at hz'
          cases e3 : ns[m]? with
          | none => rw [e3] at hz'; cases hz'
          | some k =>
            rw [e3] at hz'
            cases hz'
            exact g2 m k hm e3
    | _ => cases ez
  | _ => cases eds
def rgD (a b : Int) : Option (List D) := if (-(2 ^ 62) ≤ a ∧ a < 2 ^ 62) ∧ (-(2 ^ 62) ≤ b ∧ b < 2 ^ 62) ∧ (b - a).toNat ≤ 2 ^ 24 then some ((List.range (b - a).toNat).map fun i => D.int (a + (i : Nat))) else none
def oRg1 (f : ES) : AS := fun ρ => (f ρ).bind fun x => match x.1 with
  | .int n => (ofO (rgD 0 n)).bind fun ds => .ok (ds, x.2)
  | _ => .bad
def oRg2 (f g : ES) : AS := fun ρ => (f ρ).bind fun x => (g x.2).bind fun y => match x.1, y.1 with
  | .int m, .int n => (ofO (rgD m n)).bind fun ds => .ok (ds, y.2)
  | _, _ => .bad
theorem reps_rg {O : Addr → Prop} {H : Hp} (a : Int) (n : Nat) : Reps K O H ((List.range n).map fun i => V.int (a + (i : Nat))) ((List.range n).map fun i => D.int (a + (i : Nat))) := by
  have e1 : ((List.range n).map fun i => V.int (a + (i : Nat))) = ((List.range n).map fun i => a + (i : Nat)).map V.int := by rw [List.map_map] <;> rfl
  have e2 : ((List.range n).map fun i => D.int (a + (i : Nat))) = ((List.range n).map fun i => a + (i : Nat)).map D.int := by rw [List.map_map] <;> rfl
  rw [e1, e2]
  exact reps_ints _
theorem rgD_some {a b : Int} {ds : List D} (h : rgD a b = some ds) : RgOk a b ∧ ds = (List.range (b - a).toNat).map fun i => D.int (a + (i : Nat)) := by
  unfold rgD at h
  split at h
  · rename_i hh
    exact ⟨⟨hh.1.1, hh.1.2, hh.2.1.1, hh.2.1.2, hh.2.2⟩, (Option.some.inj h).symm⟩
  · cases h
theorem eo_listRg1 {p1 p2 : Pos} (hc : X.calm = true) (hg : Gl X "list") (hm : X.mg "list" = none) (hg2 : Gl X "range") (hm2 : X.mg "range" = none) (ha : EV X E p false a fa)
    (na : starEach [a] X.env = (false, eval a X.env) :: starEach [] X.env := by rfl) (nb : starEach [Expr.Call (.Name "range" p1) [a] [] p2] X.env = (false, eval (Expr.Call (.Name "range" p1) [a] [] p2) X.env) :: starEach [] X.env := by rfl) :
    EO X E p (.Call (.Name "list" pp) [.Call (.Name "range" p1) [a] [] p2] [] pos) (oRg1 fa) := by
  obtain ⟨t, pt, rt⟩ := ha.ex
  refine ⟨_, pe_listRg hc hg hm (prg_1 hg2 hm2 pt na) nb, fun O W σ H ρ Q s h => ?_⟩
  refine rt O W σ H ρ _ s (h.bind.mono (fun x hx v H1 po r => ?_) fun _ _ z => z)
  obtain ⟨d, ρ1⟩ := x
  cases d with
  | int n =>
    obtain ⟨ds, e, hz⟩ := hx.bind.ofO
    obtain ⟨ok, rfl⟩ := rgD_some e
    exact ⟨n, r.int_inv, ok, fun q hq => eo_end hz po q _ hq (reps_rg _ _) (po.free' hq)⟩
  | _ => exact hx.elim
theorem eo_listRg2 {p1 p2 : Pos} (hc : X.calm = true) (hg : Gl X "list") (hm : X.mg "list" = none) (hg2 : Gl X "range") (hm2 : X.mg "range" = none) (ha : EV X E p false a fa) (hb : EV X E q false b fb)
    (na : starEach [a, b] X.env = (false, eval a X.env) :: starEach [b] X.env := by rfl) (nc : starEach [b] X.env = (false, eval b X.env) :: starEach [] X.env := by rfl) (hp : (backTo p2 (starEach [b] X.env)).any (·.1) = false := by rfl)
    (nb : starEach [Expr.Call (.Name "range" p1) [a, b] [] p2] X.env = (false, eval (Expr.Call (.Name "range" p1) [a, b] [] p2) X.env) :: starEach [] X.env := by rfl) :
    EO X E (p && q) (.Call (.Name "list" pp) [.Call (.Name "range" p1) [a, b] [] p2] [] pos) (oRg2 fa fb) := by
  obtain ⟨t, pt, rt⟩ := ha.ex
  obtain ⟨t2, pt2, rt2⟩ := hb.ex
  refine ⟨_, pe_listRg hc hg hm (prg_2 hg2 hm2 pt pt2 na nc hp) nb, fun O W σ H ρ Q s h => ?_⟩
  refine rt O W σ H ρ _ s (h.bind.mono (fun x hx v H1 po r => ?_) fun _ _ z => z)
  refine rt2 O W σ H1 _ _ po.st (hx.bind.mono (fun y hy v2 H2 po2 r2 => ?_) fun _ _ z => z.on po.ext)
  obtain ⟨d, ρ1⟩ := x
  obtain ⟨d2, ρ2⟩ := y
  cases d with
  | int m =>
    cases d2 with
    | int n =>
      obtain ⟨ds, e, hz⟩ := hy.bind.ofO
      obtain ⟨ok, rfl⟩ := rgD_some e
      exact ⟨m, n, r.int_inv, r2.int_inv, ok, fun q hq => eo_end hz (po.trans po2) q _ hq (reps_rg _ _) ((po.trans po2).free' hq)⟩
    | _ => exact hy.elim
  | _ => exact hy.elim
def aStar (f : ES) (r : AS) : AS := fun ρ => (f ρ).bind fun x => (ofO (seqD x.1)).bind fun ds => (r x.2).bind fun y => .ok (ds ++ y.1, y.2)
theorem paired_of {O : Addr → Prop} {H : Hp} : ∀ {vs : List V} {ds : List D}, Reps K O H vs ds → Paired (RepW w K O H) vs ds
  | _, _, .nil => .nil
  | _, _, .cons r t => .cons (.inl r) (paired_of t)
theorem Paired.app {α β : Type} {R : α → β → Prop} : ∀ {as cs : List α} {bs ds : List β}, Paired R as bs → Paired R cs ds → Paired R (as ++ cs) (bs ++ ds)
  | _, _, _, _, .nil, h => h
  | _, _, _, _, .cons r t, h => .cons r (Paired.app t h)
theorem av_star {pst : Pos} (ha : EV X E p w1 e fe) (hr : AV X E q w es ar) (hw : (!w || q) = true := by rfl) (hs : starEach (.Starred e pst :: es) X.env = (true, eval e X.env) :: starEach es X.env := by rfl) : AV X E (p && q) w (.Starred e pst :: es) (aStar fe ar) := by
  obtain ⟨ta, pa, ra⟩ := ha.ex
  obtain ⟨tb, pb, rb⟩ := hr.ex
  refine ⟨_, StX.pa_star pa pb hs, fun O W σ H ρ Q s h => ?_⟩
  refine ra O W σ H ρ _ s (h.bind.mono (fun x hx v H1 po r => ?_) fun _ _ z => z)
  obtain ⟨ds, eds, hx⟩ := hx.bind.ofO
  have main : ∃ a vs, v = V.ref a ∧ (SqT X.K H1 a vs ∨ SqL X.K H1 a vs) ∧ Reps X.K O H1 vs ds := by
    obtain ⟨d, ρ1⟩ := x
    cases d with
    | tup es =>
      cases eds
      obtain ⟨a, vs, h1, h2, h3⟩ := r.tup_inv
      exact ⟨a, vs, h1, .inl h2.sq, h3⟩
    | lst es =>
      cases eds
      obtain ⟨a, vs, h1, h2, h3⟩ := r.lst_inv
      exact ⟨a, vs, h1, .inr h2, h3⟩
    | _ => cases eds
  obtain ⟨a, vs, h1, h2, h3⟩ := main
  refine ⟨a, vs, h1, h2, ?_⟩
  refine rb O W σ H1 x.2 _ po.st (hx.bind.mono (fun y hy us H2 po2 r2 => ?_) fun _ _ z => z.on po.ext)
  exact hy (vs ++ us) H2 (po.trans po2) (Paired.app (paired_of (h3.ext po2.ext po2.st.sub)) r2)
variable {i : Nat} {x : Str}
def sPut (i : Nat) (fi fe : ES) : List B → Fl := fun ρ => sRs (fe ρ) fun x => sRs (atOw i x.2) fun _ => sRs (fi x.2) fun y => sRs (atOw i y.2) fun z => match y.1 with
  | .int k => match ixN z.2.length k with
    | some j => .nx (y.2.set i (.ow z.1 (z.2.set j x.1)))
    | none => .bad
  | _ => .bad
theorem rs_at {bs : Bs} {O W : Addr → Prop} {H : Hp} {De : Ends} {i : Nat} {ρ : List B} {k : Bool × List D → Fl} (h : FlOk X E bs O W H De (sRs (atOw i ρ) k)) : ∃ kb ds, ρ[i]? = some (.ow kb ds) ∧ FlOk X E bs O W H De (k (kb, ds)) := by
  cases e : atOw i ρ with
  | ok y =>
    rw [e] at h
    exact ⟨y.1, y.2, atOw_ok e, h⟩
  | exc c x => exact absurd e (atOw_no c x)
  | bad => rw [e] at h; exact h.elim
theorem ss_put (i : Nat) {x : Str} {npos tpos : Pos} (hb : EV X E p false b fb) (he : EV X E q false e fe) (hN : X.N[i]? = some x := by rfl) (hv : Vis X.env.scope x := by first | exact Or.inl rfl | exact Or.inr (Or.inl rfl) | exact Or.inr (Or.inr rfl)) (hd : (x == ("__debug__" : Str)) = false := by decide)
    (hcd : (x == ("__classdict__" : Str)) = false := by decide)
    (ha : ∀ v, assign (.Subscript (.Name x npos) b tpos) X.env v = (do
      let ov ← holding [v] (eval (.Name x npos) X.env)
      let iv ← holding [v, ov] (eval b X.env)
      standAt tpos
      holding [v, ov, iv] (setItem ov iv v)
      release [v, ov, iv] []) := by intro _; rfl)
    (hs : swapsWithSole [.Subscript (.Name x npos) b tpos] e pos.line X.env = pure false := by rfl) (hw : swappedStores [.Subscript (.Name x npos) b tpos] e X.env = pure none := by rfl)
    (h1 : (assignEach [.Subscript (.Name x npos) b tpos] X.env).map (·.2) = [assign (.Subscript (.Name x npos) b tpos) X.env] := by rfl) :
    SS X E (.Assign [.Subscript (.Name x npos) b tpos] e pos) (sPut i fb fe) := by
  obtain ⟨tb, pb, rb⟩ := hb.ex
  obtain ⟨te, pe, re⟩ := he.ex
  refine ⟨_, ps_asg pe (pg_sub (pe_var (i := i) hN hv hd hcd) pb set_list ha) hs hw h1, fun bs O W De σ H ρ s h => ?_⟩
  refine re O W σ H ρ _ s.st ((FlOk.rs s h).mono (fun x hx v H1 po r => ?_) fun _ _ z => z)
  have s1 := s.post po
  have t1 := s.tr po
  obtain ⟨k0, ds0, e0, hx⟩ := rs_at (FlOk.on hx s.st.sub t1)
  obtain ⟨a, us0, h1, h2, h3, h4⟩ := s1.st.slot i _ e0
  refine ⟨.ref a, h1, ?_⟩
  refine rb O W σ H1 x.2 _ s1.st ((FlOk.rs s1 hx).mono (fun y hy u H2 po2 r2 => ?_) fun _ _ z => z)
  have s2 := s1.post po2
  have t2 := s1.tr po2
  obtain ⟨k, ds, e1, hy⟩ := rs_at (FlOk.on hy s1.st.sub t2)
  obtain ⟨a', us, g1, g2, g3, g4⟩ := s2.st.slot i _ e1
  rw [h1] at g1
  cases g1
  obtain ⟨dy, ρ2⟩ := y
  cases dy with
  | int n =>
    have hy : FlOk X E bs O W H2 De (match ixN ds.length n with
      | some j => .nx (ρ2.set i (.ow k (ds.set j x.1)))
      | none => .bad) := hy
    cases ej : ixN ds.length n with
    | none => simp only [ej] at hy; exact hy.elim
    | some j =>
      simp only [ej] at hy
      obtain ⟨q1, q2, q3⟩ := s2.st.wr e1 h1 (g4.set (r.strict.ext po2.ext po2.st.sub) j)
      have po3 : Post false X.K O W σ H2 (upd H2 a (.lst (us.set j v))) ρ2 (ρ2.set i (.ow k (ds.set j x.1))) := ⟨q1, q2, q3, fun z => nomatch z⟩
      exact ⟨a, us, n, j, rfl, r2.int_inv, g3, by rw [g4.length]; exact ej, hy O W σ _ (s2.post po3) (s2.tr po3)⟩
  | _ => exact hy.elim
def sAug (i : Nat) (f : D → D → Option D) (fe : ES) : List B → Fl := fun ρ => sRs (eSlot i ρ) fun z => sRs (fe ρ) fun x => sRs (ofO (f z.1 x.1)) fun d => .nx (x.2.set i (.va d))
theorem ss_aug (i : Nat) {x : Str} {op : Operator} {ti : TIp} {f : D → D → Option D} {pos' : Pos} (ho : PIp X op ti) (hd : Od X.K false w2 ti f) (he : EV X E p w2 e fe) (hN : X.N.Nodup) (hi : X.N[i]? = some x := by rfl) (hx : Loc X.env.scope x := by first | exact Or.inl rfl | exact Or.inr rfl)
    (hf : X.fn x = true ∨ X.env.scope.names.lookup x = some .local := by first | exact .inl rfl | exact .inr rfl) : SS X E (.AugAssign (.Name x pos') op e pos) (sAug i f fe) := by
  obtain ⟨t, pt, rt⟩ := he.ex
  refine ⟨_, ps_aug hN hi hx pt ho hf, fun b O W De σ H ρ s h => ?_⟩
  unfold sAug eSlot at h
  cases ei : ρ[i]? with
  | none => simp only [ei] at h; exact h.elim
  | some c =>
    cases c with
    | va d =>
      simp only [ei] at h
      have h : FlOk X E b O W H De (sRs (fe ρ) fun x => sRs (ofO (f d x.1)) fun d => .nx (x.2.set i (.va d))) := h
      obtain ⟨v, h1, h2⟩ := s.st.slot i _ ei
      refine ⟨v, h1, rt O W σ H ρ _ s.st ((FlOk.rs s h).mono (fun x hx u H1 po r => ?_) fun _ _ z => z)⟩
      cases ef : f d x.1 with
      | none => rw [ef] at hx; exact hx.elim
      | some c =>
        rw [ef] at hx
        refine hd O H1 v u d x.1 c _ po.st.al (.inl (h2.ext po.ext po.st.sub)) r ef fun z H2 sm rz => ?_
        have po2 := po.more sm
        exact hx O W _ H2 ((s.post po2).put rz) (s.tr po2)
    | _ => simp only [ei] at h; exact h.elim
theorem pip_of {op : Operator} {r : R2} (h : OpR X (inplaceOp op) r) : PIp X op r := h
theorem od_iadd : Od K w1 w2 (rI0 fun i j => .int (i + j)) (fun a b => match a, b with | .int i, .int j => some (.int (i + j)) | _, _ => none) := od_int0 (g := fun i j => .int (i + j)) (fun a b c e => by
  cases a <;> cases b <;> cases e
  exact ⟨_, _, rfl, rfl, rfl⟩) fun _ _ _ _ => .int _
end
end RT
namespace RT
open PySem PySem.Spec PyProof.Rows L2
inductive MI (K : PySem.W.Frag) (O : Addr → Prop) (H : Hp) : List Addr → List V → List B → Prop
  | nil : MI K O H [] [] []
  | va {qs : List Addr} {v : V} {vs : List V} {d : D} {bs : List B} : Rep K O H v d → MI K O H qs vs bs → MI K O H qs (v :: vs) (.va d :: bs)
  | ow {qs : List Addr} {q : Addr} {us : List V} {ds : List D} {vs : List V} {bs : List B} : O q → H q = some (.lst us) → Reps K O H us ds → MI K O H qs vs bs → MI K O H (q :: qs) (.ref q :: vs) (.ow false ds :: bs)
theorem MI.less {K : PySem.W.Frag} {O O' : Addr → Prop} {H : Hp} (h : ∀ a, O' a → O a) : ∀ {qs : List Addr} {vs : List V} {bs : List B}, MI K O H qs vs bs → (∀ q ∈ qs, O' q) → MI K O' H qs vs bs
  | _, _, _, .nil, _ => .nil
  | _, _, _, .va r t, k => .va (r.less h) (MI.less h t k)
  | _, _, _, .ow o e r t, k => .ow (k _ List.mem_cons_self) e (r.less h) (MI.less h t fun q z => k q (List.mem_cons_of_mem _ z))
abbrev MS := List B → Rs (List B × List B)
structure MV (X : Cx) (E : XK) (es : List Expr) (f : MS) : Prop where
  ex : ∃ t, PA X es t ∧ ∀ (O W : Addr → Prop) (σ : St) (H : Hp) (ρ : List B) (Q : List V → Hp → Prop), StR X.K O W σ H ρ →
    Wr (f ρ) (fun r => ∀ vs qs H', StR X.K (fun a => O a ∨ a ∈ qs) W σ H' r.2 → Ext W H H' → Kd ρ r.2 → qs.Nodup → (∀ q ∈ qs, H q = none) → MI X.K (fun a => O a ∨ a ∈ qs) H' qs vs r.1 → Q vs H') (EX X E O W H) → t σ H Q
def mNil : MS := fun ρ => .ok ([], ρ)
def mVa (f : ES) (g : MS) : MS := fun ρ => (f ρ).bind fun x => (g x.2).bind fun y => .ok (.va x.1 :: y.1, y.2)
def mOw (f : AS) (g : MS) : MS := fun ρ => (f ρ).bind fun x => (g x.2).bind fun y => .ok (.ow false x.1 :: y.1, y.2)
section
variable {X : Cx} {E : XK} {p : Bool} {e : Expr} {es : List Expr} {fe : ES} {ar : AS} {g : MS} {pos : Pos}
theorem mv_nil : MV X E [] mNil := ⟨_, pa_nil, fun O W σ H ρ Q s h => h [] [] H (s.lessO (O := fun a => O a ∨ a ∈ ([] : List Addr)) (fun a z => z.elim id fun z => nomatch z) (fun a z => .inl (s.sub a z))) (Ext.refl _ _) (fun _ => rfl) .nil (fun _ z => nomatch z) .nil⟩
theorem Rep.shunL {K : PySem.W.Frag} {O W : Addr → Prop} {H H' : Hp} {qs : List Addr} {v : V} {d : D} (r : Rep K O H v d) (e : Ext W H H') (s : ∀ a, W a → O a) (n : ∀ q ∈ qs, H q = none) : Rep K (fun a => O a ∨ a ∈ qs) H' v d :=
  (r.shun (O' := fun a => O a ∨ a ∈ qs) fun a z => z.elim .inl fun z => .inr (n a z)).ext e fun a z => .inl (s a z)
theorem mv_va (ha : EV X E p false e fe) (hr : MV X E es g) (hs : starEach (e :: es) X.env = (false, eval e X.env) :: starEach es X.env := by rfl) : MV X E (e :: es) (mVa fe g) := by
  obtain ⟨ta, pa, ra⟩ := ha.ex
  obtain ⟨tb, pb, rb⟩ := hr.ex
  refine ⟨_, pa_cons pa pb hs, fun O W σ H ρ Q s h => ?_⟩
  refine ra O W σ H ρ _ s (h.bind.mono (fun x hx v H1 po r => ?_) fun _ _ z => z)
  refine rb O W σ H1 x.2 _ po.st (hx.bind.mono (fun y hy vs qs H2 st e2 k2 nd n2 mi => ?_) fun _ _ z => z.on po.ext)
  refine hy (v :: vs) qs H2 st (po.ext.trans e2) (fun i => (k2 i).trans (po.kd i)) nd (fun q z => po.free' (n2 q z)) (.va (r.strict.shunL e2 po.st.sub n2) mi)
theorem StR.apartO {K : PySem.W.Frag} {O W : Addr → Prop} {σ : St} {H H' : Hp} {ρ ρ' : List B} {q : Addr} {p : Bool} (s : StR K O W σ H ρ) (po : Post p K O W σ H H' ρ ρ') (n : H q = none) (st : StR K (fun a => O a ∨ a = q) (fun a => W a ∨ a = q) σ H' ρ') : StR K (fun a => O a ∨ a = q) W σ H' ρ' where
  len := st.len
  slot := fun i b e => by
    have q1 := st.slot i b e
    have q2 := po.st.slot i b e
    cases b with
    | un => exact trivial
    | va d => exact q1
    | ow k ds =>
      obtain ⟨p1, vs1, h1, h2, h3, h4⟩ := q1
      obtain ⟨p2, vs2, g1, g2, g3, g4⟩ := q2
      rw [h1] at g1
      cases g1
      exact ⟨p1, vs1, h1, g2, h3, h4⟩
  apart := st.apart
  sub := fun a z => .inl (s.sub a z)
  al := st.al
theorem EX.more {O O' W : Addr → Prop} {H : Hp} {c : Str} {x : D} (h : EX X E O W H c x) (k : ∀ a, O a → O' a) : EX X E O' W H c x := fun cls d H' e r => by
  obtain ⟨C, dd, v, h1, h2, h3, h4, h5⟩ := r
  exact h cls d H' e ⟨C, dd, v, h1, h2, h3, h4, h5.less k⟩
theorem mv_ow (ha : EO X E p e ar) (hr : MV X E es g) (hs : starEach (e :: es) X.env = (false, eval e X.env) :: starEach es X.env := by rfl) : MV X E (e :: es) (mOw ar g) := by
  obtain ⟨ta, pa, ra⟩ := ha.ex
  obtain ⟨tb, pb, rb⟩ := hr.ex
  refine ⟨_, pa_cons pa pb hs, fun O W σ H ρ Q s h => ?_⟩
  refine ra O W σ H ρ _ s (h.bind.mono (fun x hx q us H1 n po st hq r => ?_) fun _ _ z => z)
  have s1 := s.apartO po n st
  have nw : ¬ W q := fun z => s.al q (s.sub q z) n
  refine rb (fun a => O a ∨ a = q) W σ H1 x.2 _ s1 (hx.bind.mono (fun y hy vs qs H2 st2 e2 k2 nd n2 mi => ?_) fun _ _ z => (z.on po.ext).more fun a z => .inl z)
  have hq2 : H2 q = some (.lst us) := e2 q _ nw hq
  have fre : ∀ a ∈ q :: qs, H a = none := fun a z => by
    rcases List.mem_cons.mp z with z | z
    · rw [z]; exact n
    · exact po.free' (n2 a z)
  have nq : q ∉ qs := fun z => by
    have := n2 q z
    rw [hq] at this; cases this
  have conv : ∀ a, (O a ∨ a ∈ q :: qs) → ((O a ∨ a = q) ∨ a ∈ qs) := fun a z => by
    rcases z with z | z
    · exact .inl (.inl z)
    · rcases List.mem_cons.mp z with z | z
      · exact .inl (.inr z)
      · exact .inr z
  have rr : Reps X.K (fun a => (O a ∨ a = q) ∨ a ∈ qs) H2 us x.1 := (r.shun (O' := fun a => (O a ∨ a = q) ∨ a ∈ qs) fun a z => z.elim .inl fun z => .inr (n2 a z)).ext e2 fun a z => .inl (.inl (s.sub a z))
  refine hy (.ref q :: vs) (q :: qs) H2 (st2.lessO (O := fun a => O a ∨ a ∈ q :: qs) conv fun a z => .inl (s.sub a z)) (po.ext.trans e2) (fun i => (k2 i).trans (po.kd i)) (List.nodup_cons.mpr ⟨nq, nd⟩) fre ?_
  refine MI.less conv (.ow (.inl (.inr rfl)) hq2 rr mi) fun a z => .inr z
end
def setS (σ : St) : List Nat → List V → St
  | i :: is, v :: vs => setS (σ.set i (some v)) is vs
  | _, _ => σ
def setB (ρ : List B) : List Nat → List B → List B
  | i :: is, b :: bs => setB (ρ.set i b) is bs
  | _, _ => ρ
theorem SI.putQ {K : PySem.W.Frag} {b : Bs} {O W : Addr → Prop} {σ : St} {H : Hp} {ρ : List B} {i : Nat} {q : Addr} {us : List V} {ds : List D} (s : SI K b O W σ H ρ) (oq : O q) (bn : b.H q = none) (hq : H q = some (.lst us)) (r : Reps K O H us ds)
    (oth : ∀ j : Nat, isOw ρ[j]? = true → σ[j]? ≠ some (some (.ref q))) : SI K b O (fun a => W a ∨ a = q) (σ.set i (some (.ref q))) H (ρ.set i (.ow false ds)) := by
  have st := s.st
  have hlt : ∀ {j : Nat} {c : B}, (ρ.set i (.ow false ds))[j]? = some c → j < σ.length := fun {j c} e => by
    have := (List.getElem?_eq_some_iff.mp e).1
    rw [List.length_set] at this
    rw [st.len]; exact this
  have ow' : ∀ {j : Nat}, isOw (ρ.set i (.ow false ds))[j]? = true → (i = j ∧ i < ρ.length) ∨ (i ≠ j ∧ isOw ρ[j]? = true) := fun {j} h => by
    unfold isOw at h
    rw [kind_set] at h
    split at h
    · exact .inl (by assumption)
    · rename_i hh
      by_cases e : i = j
      · subst e
        have : ρ[i]? = none := List.getElem?_eq_none (by omega)
        rw [this] at h; cases h
      · exact .inr ⟨e, h⟩
  refine ⟨⟨?_, fun j c e => ?_, fun j k a h1 h2 h3 h4 => ?_, fun a z => z.elim (st.sub a) fun e => e ▸ oq, st.al⟩, s.ext, s.bal, s.up, s.bsub, fun a z => z.elim (s.own a) fun e => .inr (e ▸ bn), fun j a h1 h2 => ?_, fun j h1 => ?_⟩
  · rw [List.length_set, List.length_set]; exact st.len
  · have hj := hlt e
    rcases set_some e with ⟨e1, e2⟩ | ⟨e1, e2⟩
    · subst e1; subst e2
      exact ⟨q, us, by rw [List.getElem?_set_self hj], .inr rfl, hq, r⟩
    · have h := st.slot j c e2
      rw [List.getElem?_set_ne e1]
      cases c with
      | un => exact trivial
      | va d => exact h
      | ow k ds' =>
        obtain ⟨p, vs, g1, g2, g3, g4⟩ := h
        exact ⟨p, vs, g1, .inl g2, g3, g4⟩
  · rcases ow' h1 with ⟨a1, l1⟩ | ⟨a1, o1⟩ <;> rcases ow' h2 with ⟨a2, l2⟩ | ⟨a2, o2⟩
    · rw [← a1, ← a2]
    · subst a1
      have hl : i < σ.length := by rw [st.len]; exact l1
      rw [List.getElem?_set_self hl] at h3
      rw [List.getElem?_set_ne a2] at h4
      cases h3
      exact absurd h4 (oth k o2)
    · subst a2
      have hl : i < σ.length := by rw [st.len]; exact l2
      rw [List.getElem?_set_self hl] at h4
      rw [List.getElem?_set_ne a1] at h3
      cases h4
      exact absurd h3 (oth j o1)
    · rw [List.getElem?_set_ne a1] at h3
      rw [List.getElem?_set_ne a2] at h4
      exact st.apart j k a o1 o2 h3 h4
  · rw [kind_set] at h1
    split at h1
    · rename_i hh
      obtain ⟨e1, l1⟩ := hh
      subst e1
      rw [List.getElem?_set_self (by rw [st.len]; exact l1)] at h2
      cases h2
      exact bn
    · rename_i hh
      by_cases e : i = j
      · subst e
        have : ρ[i]? = none := List.getElem?_eq_none (by omega)
        rw [this] at h1; cases h1
      · rw [List.getElem?_set_ne e] at h2
        exact s.loc j a h1 h2
  · rw [kind_set] at h1
    split at h1
    · cases h1
    · rename_i hh
      by_cases e : i = j
      · subst e
        have : ρ[i]? = none := List.getElem?_eq_none (by omega)
        rw [this] at h1; cases h1
      · rw [List.getElem?_set_ne e]
        exact s.bor j h1
theorem SI.setM {K : PySem.W.Frag} {b : Bs} {O : Addr → Prop} {H : Hp} : ∀ {qs : List Addr} {vs : List V} {bs : List B} {is : List Nat} {W : Addr → Prop} {σ : St} {ρ : List B}, MI K O H qs vs bs → SI K b O W σ H ρ → qs.Nodup → (∀ q ∈ qs, b.H q = none) →
    (∀ q ∈ qs, ∀ j : Nat, isOw ρ[j]? = true → σ[j]? ≠ some (some (.ref q))) → is.length = vs.length → ∃ W', SI K b O W' (setS σ is vs) H (setB ρ is bs) ∧ ∀ a, W' a → W a ∨ a ∈ qs
  | _, _, _, [], W, σ, ρ, .nil, s, _, _, _, _ => ⟨W, s, fun a z => .inl z⟩
  | _, _, _, _ :: _, _, _, _, .nil, _, _, _, _, hl => by simp at hl
  | _, _, _, [], _, _, _, .va _ _, _, _, _, _, hl => by simp at hl
  | _, _, _, [], _, _, _, .ow _ _ _ _, _, _, _, _, hl => by simp at hl
  | qs, _, _, i :: is, W, σ, ρ, .va r t, s, nd, bn, oth, hl => by
    refine SI.setM (is := is) t (s.put (i := i) r) nd bn (fun q hq j h1 h2 => ?_) (by simpa using hl)
    have st := s.st
    unfold isOw at h1
    rw [kind_set] at h1
    split at h1
    · cases h1
    · rename_i hh
      by_cases e : i = j
      · subst e
        have : ρ[i]? = none := List.getElem?_eq_none (by omega)
        rw [this] at h1; cases h1
      · rw [List.getElem?_set_ne e] at h2
        exact oth q hq j h1 h2
  | _, _, _, i :: is, W, σ, ρ, .ow (qs := qs) (q := q) o e r t, s, nd, bn, oth, hl => by
    obtain ⟨nq, nd'⟩ := List.nodup_cons.mp nd
    have s1 := s.putQ (i := i) o (bn q List.mem_cons_self) e r (oth q List.mem_cons_self)
    obtain ⟨W', s2, h2⟩ := SI.setM (is := is) t s1 nd' (fun q' hq => bn q' (List.mem_cons_of_mem _ hq)) (fun q' hq j h1 h2 => by
      by_cases e : i = j
      · subst e
        rw [List.getElem?_set] at h2
        split at h2
        · split at h2
          · cases h2; exact nq hq
          · cases h2
        · rename_i z; exact z rfl
      · rw [List.getElem?_set_ne e] at h1 h2
        exact oth q' (List.mem_cons_of_mem _ hq) j h1 h2) (by simpa using hl)
    refine ⟨W', s2, fun a z => ?_⟩
    rcases h2 a z with (z | z) | z
    · exact .inl z
    · rw [z]; exact .inr List.mem_cons_self
    · exact .inr (List.mem_cons_of_mem _ z)
theorem MI.lens {K : PySem.W.Frag} {O : Addr → Prop} {H : Hp} : ∀ {qs : List Addr} {vs : List V} {bs : List B}, MI K O H qs vs bs → vs.length = bs.length
  | _, _, _, .nil => rfl
  | _, _, _, .va _ t => by rw [List.length_cons, List.length_cons, MI.lens t]
  | _, _, _, .ow _ _ _ t => by rw [List.length_cons, List.length_cons, MI.lens t]
def sPar (is : List Nat) (f : MS) : List B → Fl := fun ρ => sRs (f ρ) fun x => if x.1.length = is.length then .nx (setB x.2 is x.1) else .bad
section
variable {X : Cx} {E : XK} {es : List Expr} {g : MS} {pos : Pos}
theorem par_end {b : Bs} {O W : Addr → Prop} {De : Ends} {σ : St} {H : Hp} {ρ : List B} {is : List Nat} {R : List V → Hp → Prop} {t : TA} (s : SI X.K b O W σ H ρ)
    (rt : ∀ (O W : Addr → Prop) (σ : St) (H : Hp) (ρ : List B) (Q : List V → Hp → Prop), StR X.K O W σ H ρ →
      Wr (g ρ) (fun r => ∀ vs qs H', StR X.K (fun a => O a ∨ a ∈ qs) W σ H' r.2 → Ext W H H' → Kd ρ r.2 → qs.Nodup → (∀ q ∈ qs, H q = none) → MI X.K (fun a => O a ∨ a ∈ qs) H' qs vs r.1 → Q vs H') (EX X E O W H) → t σ H Q)
    (h : FlOk X E b O W H De (sPar is g ρ)) (hR : ∀ vs H', vs.length = is.length → De.nx (setS σ is vs) H' → R vs H') : t σ H R := by
  refine rt O W σ H ρ _ s.st ((FlOk.rs s h).mono (fun x hx vs qs H' st ex kd nd fr mi => ?_) fun _ _ z => z)
  have hlen := mi.lens
  by_cases hl : x.1.length = is.length
  · rw [if_pos hl] at hx
    have bn : ∀ q ∈ qs, b.H q = none := fun q hq => by
      have n := fr q hq
      cases e : b.H q with
      | none => rfl
      | some o =>
        by_cases w : b.W q
        · exact absurd n (s.st.al _ (s.up _ (s.bsub _ w)))
        · have := s.ext q o w e
          rw [n] at this; cases this
    have s1 : SI X.K b (fun a => O a ∨ a ∈ qs) W σ H' x.2 :=
      ⟨st, fun a o w h => ex a o (fun z => (s.own a z).elim w fun e => by rw [h] at e; cases e) (s.ext a o w h), s.bal, fun a z => .inl (s.up a z), s.bsub, s.own,
        fun i q e1 e2 => s.loc i q (by rw [← kd i]; exact e1) e2, fun i e1 => s.bor i (by rw [← kd i]; exact e1)⟩
    obtain ⟨W', s2, hw⟩ := SI.setM (is := is) mi s1 nd bn (fun q hq j h1 h2 => by
      have k1 : kindB x.2[j]? = kindB ρ[j]? := kd j
      cases ej : ρ[j]? with
      | none => rw [isOw, k1, ej] at h1; cases h1
      | some c =>
        cases c with
        | ow k es =>
          obtain ⟨p', vs', g1, g2, g3, g4⟩ := s.st.slot j _ ej
          rw [h2] at g1
          cases g1
          rw [fr q hq] at g3; cases g3
        | _ => rw [isOw, k1, ej] at h1; cases h1) (by rw [hlen]; exact hl.symm)
    exact hR vs H' (by rw [hlen]; exact hl) (hx _ _ _ _ s2 ⟨ex, fun a z => z.elim .inl fun z => .inr (fr a z), fun a z => (hw a z).elim .inl fun z => .inr (fr a z)⟩)
  · rw [if_neg hl] at hx
    exact hx.elim
theorem ss_par (i j : Nat) {x y : Str} {a b : Expr} {px py pt : Pos} {kt k2 : Nat} {pt2 : Pos} (hm : MV X E [a, b] g) (hc : X.calm = true) (hN : X.N.Nodup) (hi : X.N[i]? = some x := by rfl) (hj : X.N[j]? = some y := by rfl) (hij : i ≠ j := by decide)
    (hx : X.env.scope.names.lookup x = some .local := by rfl) (hy : X.env.scope.names.lookup y = some .local := by rfl)
    (hw : swappedStores [.Tuple [.Name x px, .Name y py] kt pt] (.Tuple [a, b] k2 pt2) X.env = pure (some [x, y]) := by rfl)
    (hs : swapsWithSole [.Tuple [.Name x px, .Name y py] kt pt] (.Tuple [a, b] k2 pt2) pos.line X.env = pure false := by rfl) :
    SS X E (.Assign [.Tuple [.Name x px, .Name y py] kt pt] (.Tuple [a, b] k2 pt2) pos) (sPar [i, j] g) := by
  obtain ⟨t, pt, rt⟩ := hm.ex
  refine ⟨_, ps_par hc hN hi hj hij hx hy pt hw hs, fun b O W De σ H ρ s h => ?_⟩
  refine par_end s rt h fun vs H' hl hn => ?_
  match vs, hl with
  | [v, w], _ => exact ⟨v, w, rfl, hn⟩
theorem ss_par3 (i j l : Nat) {x y z : Str} {a b c : Expr} {px py pz pt : Pos} {kt k2 : Nat} {pt2 : Pos} (hm : MV X E [a, b, c] g) (hc : X.calm = true) (hN : X.N.Nodup) (hi : X.N[i]? = some x := by rfl) (hj : X.N[j]? = some y := by rfl) (hl : X.N[l]? = some z := by rfl)
    (hij : i ≠ j := by decide) (hil : i ≠ l := by decide) (hjl : j ≠ l := by decide)
    (hx : X.env.scope.names.lookup x = some .local := by rfl) (hy : X.env.scope.names.lookup y = some .local := by rfl) (hz : X.env.scope.names.lookup z = some .local := by rfl)
    (hw : swappedStores [.Tuple [.Name x px, .Name y py, .Name z pz] kt pt] (.Tuple [a, b, c] k2 pt2) X.env = pure (some [x, y, z]) := by rfl)
    (hs : swapsWithSole [.Tuple [.Name x px, .Name y py, .Name z pz] kt pt] (.Tuple [a, b, c] k2 pt2) pos.line X.env = pure false := by rfl) :
    SS X E (.Assign [.Tuple [.Name x px, .Name y py, .Name z pz] kt pt] (.Tuple [a, b, c] k2 pt2) pos) (sPar [i, j, l] g) := by
  obtain ⟨t, pt, rt⟩ := hm.ex
  refine ⟨_, ps_par3 hc hN hi hj hl hij hil hjl hx hy hz pt hw hs, fun b O W De σ H ρ s h => ?_⟩
  refine par_end s rt h fun vs H' hl hn => ?_
  match vs, hl with
  | [v, w, u], _ => exact ⟨v, w, u, rfl, hn⟩
def sUnp (f : ES) (tg : D → Option (List (Nat × D))) : List B → Fl := fun ρ => sRs (f ρ) fun x => sRs (ofO (tg x.1)) fun as => .nx (putB x.2 as)
theorem ss_unp {p : Bool} {is : List Nat} {tgt e : Expr} {fe : ES} {tg : D → Option (List (Nat × D))} (he : EV X E p false e fe) (hg : GV X is tgt tg) (hs : swapsWithSole [tgt] e pos.line X.env = pure false := by rfl) (hw : swappedStores [tgt] e X.env = pure none := by rfl)
    (h1 : (assignEach [tgt] X.env).map (·.2) = [assign tgt X.env] := by rfl) : SS X E (.Assign [tgt] e pos) (sUnp fe tg) := by
  obtain ⟨t, pt, rt⟩ := he.ex
  obtain ⟨u, pu, ru⟩ := hg.ex
  refine ⟨_, ps_asg pt pu hs hw h1, fun b O W De σ H ρ s h => ?_⟩
  refine rt O W σ H ρ _ s.st ((FlOk.rs s h).mono (fun x hx v H1 po r => ?_) fun _ _ z => z)
  cases et : tg x.1 with
  | none => rw [et] at hx; exact hx.elim
  | some as =>
    rw [et] at hx
    exact ru O H1 σ v x.1 as _ r.strict et fun vs pu _ => hx O W _ H1 (SI.puts pu (s.post po)) (s.tr po)
end
end RT
namespace RT
open PySem PySem.Spec PyProof.Rows L2
abbrev FSO := List D → Rs (List D)
def spFO (K : PySem.W.Frag) (F : FSO) : Sp := fun vs H Q E => ∃ (O : Addr → Prop) (ds : List D), Reps K O H vs ds ∧ Al O H ∧
  Wr (F ds) (fun r => ∀ q us H', Same H H' → H q = none → H' q = some (.lst us) → Reps K (fun a => O a ∨ a = q) H' us r → Q (.ref q) H') (fun _ _ => False)
def fnSemO (n m : Nat) (g : List B → Fl) : FSO := fun ds => if ds.length = n then match g (ds.map .va ++ List.replicate m .un) with
  | .ro r _ => .ok r
  | _ => .bad
  else .bad
theorem fnSemO_no {n m : Nat} {g : List B → Fl} {ds : List D} : ∀ c x, fnSemO n m g ds ≠ .exc c x := fun c x h => by
  unfold fnSemO at h
  split at h
  · split at h <;> cases h
  · cases h
theorem FnG.of_bodyO {P : Program} {w : World} {K : PySem.W.Frag} {mg : Str → Option Value} {base : Heap} {x qual : Str} {params : Arguments} {body : List Stmt} {scope : Scope} {f : Addr} {fd : FuncData} {N ps : List Str} {k n m : Nat} {g : List B → Fl}
    (F : FunD K x qual params body scope [] [] f fd) (S : FnScope N ps scope) (hn : ps.length = n) (hN : N.length = n + m)
    (hbody : ∀ (cdv : Value) (A : Around) (outer : List Env) (s : Shared) (H : Hp) (E : XK), Room k (A.deeper (envOfC qual scope s.heap.objs.size f cdv)) → (A.deeper (envOfC qual scope s.heap.objs.size f cdv)).guards = some [] →
      SSs (cxOf CX0 P w K mg base N qual scope f cdv A outer s H E).nox E0 body g) : FnG P w K mg base CX0 (k + 1) f fd ps (spFO K (fnSemO n m g)) := by
  obtain ⟨oc, od, dV, kV, doc, pm, an, cdv, ct, osl, rfl, lk, hcd, _, _⟩ := F.ex
  refine fn_ofG lk hcd S (fun vs H Q E h => ?_) fun A outer s H vs Q E hr hgd h => ?_
  · obtain ⟨O, ds, rr, al, h⟩ := h
    obtain ⟨r, er, _⟩ := h.at fnSemO_no
    unfold fnSemO at er
    split at er
    · rename_i hl
      rw [hn, ← hl, rr.length]
    · cases er
  · obtain ⟨O, ds, rr, al, h⟩ := h
    obtain ⟨r, er, hq⟩ := h.at fnSemO_no
    obtain ⟨t, pt, rt⟩ := (hbody cdv A outer s H E hr hgd).ex
    refine ⟨t, pt.nox, ?_⟩
    unfold fnSemO at er
    split at er
    · rename_i hl
      have hv : vs.length = n := by rw [rr.length]; exact hl
      have s0 : SI K ⟨vs, O, fun _ => False, H⟩ O (fun _ => False) (L2.start N vs) H (ds.map .va ++ List.replicate m .un) := SI.start (strArgs rr al) (allVa ds) (by rw [hv, hN])
      refine rt ⟨vs, O, fun _ => False, H⟩ O (fun _ => False) _ _ H _ s0 ?_
      cases eg : g (ds.map .va ++ List.replicate m .un) with
      | ro r' ρ =>
        rw [eg] at er
        obtain rfl : r' = r := Rs.ok.inj er
        exact fun q us O' W' σ' H' s' bn hq' rr' => hq q us H' (fun b o e => s'.ext b o (fun z => z) e) bn hq' (rr'.less fun a z => z.elim (fun z => .inl (s'.up a z)) .inr)
      | _ => rw [eg] at er; cases er
    · cases er
structure CalO (P : Program) (w : World) (K : PySem.W.Frag) (mg : Str → Option Value) (base : Heap) (k : Nat) (x : Str) (n : Nat) (F : FSO) : Prop where
  ex : ∃ (f : Addr) (fd : FuncData) (ps : List Str), mg x = some (.ref f) ∧ PySem.W.keepIn K (.ref f) = true ∧ ps.length = n ∧ Binds K fd ps [] ∧ FnG P w K mg base CX0 k f fd ps (spFO K F)
theorem CalO.mono {P : Program} {w : World} {K : PySem.W.Frag} {mg : Str → Option Value} {base : Heap} {j k : Nat} {x : Str} {n : Nat} {F : FSO} (C : CalO P w K mg base j x n F) (h : j ≤ k) : CalO P w K mg base k x n F := by
  obtain ⟨f, fd, ps, h1, h2, h3, h4, h5⟩ := C.ex
  exact ⟨f, fd, ps, h1, h2, h3, h4, h5.mono h⟩
def noXO : Rs (List D) → Rs (List D) := noX
def oCall (F : FSO) (ar : AS) : AS := fun ρ => (ar ρ).bind fun x => (noX (F x.1)).bind fun y => .ok (y, x.2)
section
variable {X : Cx} {E : XK} {p w : Bool} {k n : Nat} {x : Str} {F : FSO} {e : Expr} {es : List Expr} {ar : AS} {pp pos : Pos}
theorem StR.grow2 {K : PySem.W.Frag} {O W : Addr → Prop} {σ : St} {H H' : Hp} {ρ : List B} {a : Addr} {o : HO} (s : StR K O W σ H ρ) (sm : Same H H') (n : H a = none) (ho : H' a = some o) : StR K (fun b => O b ∨ b = a) (fun b => W b ∨ b = a) σ H' ρ := by
  refine ⟨s.len, fun i b e => ?_, s.apart, fun b z => z.elim (fun z => .inl (s.sub b z)) .inr, fun b z => ?_⟩
  · have q := s.slot i b e
    cases b with
    | un => exact trivial
    | va d =>
      obtain ⟨v, h1, h2⟩ := q
      exact ⟨v, h1, (h2.shun fun b z => z.elim .inl fun e => .inr (by rw [e]; exact n)).same sm⟩
    | ow k ds =>
      obtain ⟨p, vs, h1, h2, h3, h4⟩ := q
      exact ⟨p, vs, h1, .inl h2, sm p _ h3, (h4.shun fun b z => z.elim .inl fun e => .inr (by rw [e]; exact n)).same sm⟩
  · rcases z with z | z
    · cases q : H b with
      | none => exact absurd q (s.al b z)
      | some u => rw [sm b u q]; exact fun z => nomatch z
    · rw [z, ho]; exact fun z => nomatch z
theorem eo_call (C : CalO X.prog X.w X.K X.mg X.base k x n F) (hr : Room k X.A) (hgd : X.A.guards = some []) (ha : AV X E p false (e :: es) ar) (hn : (e :: es).length = n := by rfl) (hg : Gl X x := by rfl) (hdb : (x == ("__debug__" : Str)) = false := by decide)
    (he : starEach (e :: es) X.env = (false, eval e X.env) :: starEach es X.env := by rfl) (hpl : (backTo pos (starEach es X.env)).any (·.1) = false := by rfl) : EO X E p (.Call (.Name x pp) (e :: es) [] pos) (oCall F ar) := by
  obtain ⟨f, fd, ps, h1, h2, h3, h4, h5⟩ := C.ex
  obtain ⟨t, pt, rt⟩ := ha.ex
  refine ⟨_, pe_callG h5 hr hgd hg h1 h2 h4 .nil pass0 pt hdb he hpl, fun O W σ H ρ Q s h => ?_⟩
  refine rt O W σ H ρ _ s (h.bind.mono (fun x hx vs H1 po r => ?_) fun _ _ z => z)
  have rr := reps_of r
  rw [List.append_nil]
  refine ⟨O, x.1, rr, po.st.al, (Wr.noX (Wr.bind hx)).mono (fun y hy q us H' sm n hq r2 => ?_) fun _ _ z => z⟩
  exact hy q us H' (po.free' n) (po.more sm) (po.st.grow2 sm n hq) hq r2
def eCall0 (F : FS) : ES := fun ρ => (noX (F [])).bind fun y => .ok (y.1, ρ)
theorem ev_call0 {F : FS} (C : Cal X.prog X.w X.K X.mg X.base k x 0 F) (hr : Room k X.A) (hgd : X.A.guards = some []) (hg : Gl X x := by rfl) (hdb : (x == ("__debug__" : Str)) = false := by decide) : EV X E true w (.Call (.Name x pp) [] [] pos) (eCall0 F) := by
  obtain ⟨f, fd, ps, h1, h2, h3, h4, h5⟩ := C.ex
  refine ⟨_, pe_callG0 h5 hr hgd hg h1 h2 h4 .nil pass0 hdb, fun O W σ H ρ Q s h => ?_⟩
  show spF X.K X.mg F ([] ++ []) H Q E0
  refine ⟨O, fun _ => False, [], (strArgs (ds := []) .nil s.al), rfl, fun _ z => z.elim, (Wr.noX (Wr.bind h)).mono (fun y hy v H' s2 e2 r2 _ => ?_) fun _ _ z => z⟩
  have sm : Same H H' := fun b o h => e2 b o (fun z => z) h
  exact hy v H' (Post.of_same s sm) (.inl r2)
end
end RT
namespace RT
open PySem PySem.Spec PyProof.Rows L2
theorem law_callG {P : Program} {w : World} {K : PySem.W.Frag} {mg mb : Str → Option Value} {k : Nat} {fa a : Addr} {fd : FuncData} {x : Str} {F : FS} {s₁ : Shared} {vs : List Value} {ns : List Int}
    (KX : K.In s₁.heap) (hns : s₁.heap.Ns mainGlobals mg) (hb : s₁.heap.Ns builtinsNs mb) (hbb : ∀ x : Str, x ≠ "__name__" → mb x = bootBuiltins x) (hlim : s₁.heap.NoLimit) (hg : s₁.gens = #[])
    (ha : s₁.heap.get? a = some { cls := .type "list", data := .seq vs.toArray }) (hi : IntsAre vs ns) (hl : ns.length ≤ sizeLine) (hr : Room k callerA)
    (hF : ∀ base : Heap, K.In base → base.Ns mainGlobals mg → FnG P w K mg base CX0 k fa fd [x] (spF K mg F)) (hbind : ∀ (s : Shared) (u : Value), BindsTo s fd ⟨[u], []⟩ [(x, u)])
    (hlaw : ∃ r, F [.va (.lst (ns.map D.int))] = .ok (.bl true, r)) :
    codeAny (model P w) callerA (.call (.ref fa) ⟨[.ref a], []⟩) (fun r s' => r = .ok (.ret (.bool true)) ∧ OldK s₁.heap s'.heap ∧ s'.os = s₁.os ∧ AllBare s'.gens) s₁ := by
  have rv := vals_ints hi
  have lenV := hi.length
  have core : ∀ H : Hp, Only H → RdL K H a (ns.map V.int) → HOk P w H s₁.heap → (∀ b, H b ≠ none → b = a) → (H a ≠ none → K.lookup a = none) →
      codeAny (model P w) callerA (.call (.ref fa) ⟨[.ref a], []⟩) (fun r s' => r = .ok (.ret (.bool true)) ∧ OldK s₁.heap s'.heap ∧ s'.os = s₁.os ∧ AllBare s'.gens) s₁ := by
    intro H hO hS hok hA hK
    have at_ : ∀ {b : Addr} {o : Obj} {u : HO}, s₁.heap.get? b = some o → H b = some u → o = { cls := .type "list", data := .seq vs.toArray } := fun {b o u} e q => by
      have e' : b = a := hA b (by rw [q]; simp)
      subst e'
      rw [ha] at e
      exact (Option.some.inj e).symm
    have base_of : ∀ {b : Addr} {o : Obj}, s₁.heap.get? b = some o → o.data ≠ .seq vs.toArray → (hidT s₁.heap H).get? b = some o := fun {b o} e d => hidT_get e (by
      cases q : H b with
      | none => rfl
      | some u => exact absurd (by rw [at_ e q]) d)
    have nsK : ∀ {b : Addr} {m : Str → Option Value}, s₁.heap.Ns b m → (hidT s₁.heap H).Ns b m := fun {b m} ⟨o, es, ep, e, d, r⟩ => ⟨o, es, ep, base_of e (fun z => by rw [d] at z; cases z), d, r⟩
    have hKb : K.In (hidT s₁.heap H) := fun b o e => hidT_get (KX b o e) (by
      cases q : H b with
      | none => rfl
      | some u =>
        have e' : b = a := hA b (by rw [q]; simp)
        subst e'
        rw [hK (by rw [q]; simp)] at e; cases e)
    have hM : Mod K mg (hidT s₁.heap H) := ⟨hKb, nsK hns, ⟨mb, nsK hb, hbb⟩, let ⟨mc, h1, h2⟩ := hlim; ⟨mc, nsK h1, h2⟩⟩
    have e0 : Env0 P w K mg (hidT s₁.heap H) callerA [] s₁ H := ⟨rfl, hM, fun b o e => of_hidT e, Nat.le_of_eq (hidT_size _ _), trivial, fun b hb => absurd (show b ∈ ([] : List Addr) from hb) (by simp), hok, .of_eq hg⟩
    have sp : spF K mg F [.ref a] H (fun v _ => v = .bl true) fun _ _ _ => False := by
      obtain ⟨r, er⟩ := hlaw
      have al : Al (fun _ => False) H := fun _ z => z.elim
      have rep : Reps K (fun _ => False) H [.ref a] [.lst (ns.map D.int)] := .cons (.lst (by
        rcases hS with h | h
        · exact .inl ⟨h, fun z => z⟩
        · exact .inr h) (reps_ints ns)) .nil
      refine ⟨fun _ => False, fun _ => False, [.va (.lst (ns.map D.int))], strArgs rep al, rfl, fun _ z => z.elim, ?_⟩
      rw [er]
      exact fun v H' _ _ rv _ => rv.bl_inv
    refine codeAny_mono ((hF _ hKb (nsK hns)).run callerA [] s₁ H ⟨[.ref a], []⟩ [.ref a] [.ref a] _ _ hr rfl e0 (hbind s₁ (.ref a)) (.cons rfl .nil) sp) fun r s' h => ?_
    cases r with
    | error e => exact False.elim h
    | ok fl =>
      cases fl with
      | next => exact False.elim h
      | brk => exact False.elim h
      | cont => exact False.elim h
      | ret u =>
        obtain ⟨v, H', os, bare, un, hok', r', q⟩ := h
        have q' : v = .bl true := q
        subst q'
        obtain rfl : u = Value.bool true := r'
        refine ⟨rfl, OldK.of_keep fun b o e => ?_, os, bare⟩
        cases q : H b with
        | none => exact un.keep b o e q (by intro z; exact absurd (show b ∈ ([] : List Addr) from z) (by simp)) (by simp)
        | some u =>
          rcases hO b with z | ⟨ob, xs, z⟩
          · rw [q] at z; cases z
          · have z2 := un.frzs b ob _ z
            obtain ⟨e1, _⟩ := hok b _ z
            obtain ⟨e2, _⟩ := hok' b _ z2
            rw [e] at e1; cases e1
            exact e2
  cases hk : K.lookup a with
  | some o =>
    have e := KX a o hk
    rw [ha] at e
    cases e
    exact core (fun _ => none) (fun _ => .inl rfl) (.inr ⟨_, vs.toArray, _, hk, rfl, rfl, rfl, by rw [List.size_toArray, lenV]; exact hl, by simpa using rv, rfl⟩) (fun b u z => nomatch z) (fun b z => absurd rfl z) fun z => absurd rfl z
  | none =>
    refine core (fun b => if b = a then some (.frz { cls := .type "list", data := .seq vs.toArray } (.lst (ns.map V.int))) else none) (fun b => ?_) (.inl (.inr ⟨{ cls := .type "list", data := .seq vs.toArray }, if_pos rfl⟩)) (fun b u z => ?_) (fun b z => ?_) fun _ => hk
    · by_cases hb : b = a
      · exact .inr ⟨_, _, if_pos hb⟩
      · exact .inl (if_neg hb)
    · by_cases hb : b = a
      · have z' := (if_pos hb).symm.trans z
        cases z'
        subst hb
        exact ⟨ha, by rw [List.length_map]; exact hl, vs, _, rv, ha⟩
      · have z' := (if_neg hb).symm.trans z
        cases z'
    · by_cases hb : b = a
      · exact hb
      · exact absurd (if_neg hb) z
theorem walk_ofG {l : PySem.W.OpenLaw} {n k : Nat} {q : Program} {loose : List Str} {XP : (Str → Option Value) → Heap → Prop} {YP : World → Heap → Prop} {d : DefRec} {x : Str} {F : FS}
    (hn : l.most = some n) (hn2 : n ≤ sizeLine) (hdf : d.params.defaults = []) (hr : Room k callerA)
    (hF : ∀ (w : World) (mg : Str → Option Value) (fa : Addr) (h : Heap), YP w h → h.Ns mainGlobals mg → mg d.name = some (.ref fa) →
      ∃ (K : PySem.W.Frag) (fd : FuncData), K.In h ∧ (∀ (s : Shared) (u : Value), BindsTo s fd ⟨[u], []⟩ [(x, u)]) ∧
        ∀ base : Heap, K.In base → base.Ns mainGlobals mg → FnG l.prog w K mg base CX0 k fa fd [x] (spF K mg F))
    (hlaw : ∀ ns : List Int, ns.length ≤ n → ∃ r, F [.va (.lst (ns.map D.int))] = .ok (.bl true, r)) :
    PySem.W.WalkO q loose XP YP l.row.toRowW d [] (fun f vs => PySem.call f vs) := by
  refine Att.attach_call hn hdf fun w s₀ s₁ mg mb fa o pm cd doc a vs ns G Y ho hd hcd hmg hobj hints hlen hg => ?_
  obtain ⟨K, fd, KX, hb, hF⟩ := hF w mg fa _ Y G.T.g hmg
  exact law_callG KX G.T.g G.T.b G.T.builtins G.T.nolimit hg hobj hints (Nat.le_trans hlen hn2) hr hF hb (hlaw ns hlen)
end RT
namespace PySem
open Sem (wp)
section
variable {prog : Program} {w : World} {A : Around} {E : Value → Shared → Prop} {s : Shared} {z TI TO i1 i2 : Addr} {fp1 fp2 : List Addr} {n1 n2 i : Nat} {P1 P2 : Nat → Value → Prop} {St1 St2 : Nat → Heap → Prop} {a1 a2 : Value}
theorem z2h_next_item {Q : Value → Shared → Prop} {T : Addr} {f : Bool} {oT : Obj} (S : ZipSep2 z TI TO i1 i2 fp1 fp2) (D1 : Draws prog w A i1 fp1 n1 P1 St1) (D2 : Draws prog w A i2 fp2 n2 P2 St2)
    (hz : IsZipHeld s.heap z TI TO T f) (hT : s.heap.get? T = some oT) (hTI : IsTupOf2 s.heap TI (.ref i1) (.ref i2)) (st1 : St1 i s.heap) (st2 : St2 i s.heap) (hlt1 : i < n1) (hlt2 : i < n2)
    (hQ : ∀ x1 x2 h' tk, P1 i x1 → P2 i x2 → IsZipHeld h' z TI TO T true → St1 (i + 1) h' → St2 (i + 1) h' → IsTupOf2 h' s.heap.objs.size x1 x2 → h'.objs.size = s.heap.objs.size + 1 →
      (∀ c o, c ≠ z → c ≠ i1 → c ≠ i2 → s.heap.get? c = some o → h'.get? c = some o) → Q (.ref s.heap.objs.size) { s with heap := h', toks := tk }) :
    wpAny (model prog w) A (Builtin.«zip.__next__» ⟨[.ref z], []⟩) (fun fin s' => ∃ v, fin = .done (.ret v) ∧ Q v s') E s := by
  obtain ⟨hp, g, d, tk0, os⟩ := s
  show wpAny _ _ (field (.ref z) 2 >>= _) _ _ _
  refine wpAny_bind (wpAny_field hz rfl (x := .bool false) rfl ?_)
  show wpAny _ _ (field (.ref z) 3 >>= _) _ _ _
  refine wpAny_bind (wpAny_field hz rfl (x := .ref TI) rfl ?_)
  refine wpAny_bind (wpAny_seqItems hTI rfl ?_)
  show wpAny _ _ (Builtin.SmallTypes.ownedTupleIsFree (.ref z) >>= _) _ _ _
  refine wpAny_bind (wpAny_tupleHeld_zip hz hT fun h₁ hz₁ hs₁ => ?_)
  simp only [Bool.false_eq_true, if_false]
  refine wpAny_bind ?_
  rw [← Array.forIn_toList]
  simp only [List.forIn_cons, List.forIn_nil]
  refine wpAny_bind (wpAny_bind (wpAny_holding ?_))
  show wpAny _ _ (Builtin.SmallTypes.nextOf (.ref i1) >>= _) _ _ ⟨h₁, g, d, tk0, os⟩
  replace hs₁ : Heap.SameBut z hp h₁ := hs₁
  refine wpAny_bind (D1.item i _ _ _ hlt1 (D1.over st1 hs₁ S.zf1) fun x1 p1 tk1 hx1 sn1 hp1 => wpAny_pure ?_)
  replace hp1 : Heap.SameBut i1 h₁ p1 := hp1
  refine wpAny_pure ?_
  refine wpAny_bind (wpAny_bind (wpAny_holding ?_))
  show wpAny _ _ (Builtin.SmallTypes.nextOf (.ref i2) >>= _) _ _ ⟨p1, g, d, tk1, os⟩
  refine wpAny_bind (D2.item i _ _ _ hlt2 (D2.over (D2.over st2 hs₁ S.zf2) hp1 S.sep1_2) fun x2 p2 tk2 hx2 sn2 hp2 => wpAny_pure ?_)
  replace hp2 : Heap.SameBut i2 p1 p2 := hp2
  refine wpAny_pure (wpAny_pure ?_)
  show wpAny _ _ (newTuple [x1, x2] >>= _) _ _ ⟨p2, g, d, tk2, os⟩
  refine wpAny_bind (wpAny_newTuple ?_)
  have hsz : p2.objs.size = hp.objs.size := by rw [hp2.1, hp1.1, hs₁.1]
  have hz₃ : IsZipHeld p2 z TI TO T true := hp2.extBut _ _ S.zi2 (hp1.extBut _ _ S.zi1 hz₁)
  have hk : ∀ c o, c ≠ z → c ≠ i1 → c ≠ i2 → hp.get? c = some o → p2.get? c = some o := fun c o c1 c2 c3 e => hp2.extBut _ _ c3 (hp1.extBut _ _ c2 (hs₁.extBut _ _ c1 e))
  have sn1' : St1 (i + 1) p2 := D1.over sn1 hp2 S.sep2_1
  refine wpAny_pure ⟨_, rfl, ?_⟩
  show Q (.ref p2.objs.size) _
  have hpu : IsTupOf2 (p2.push { cls := .type "tuple", data := .seq #[x1, x2] }) p2.objs.size x1 x2 := Heap.get?_push_size _ rfl
  have hz4 : (p2.push { cls := .type "tuple", data := .seq #[x1, x2] }).objs.size = p2.objs.size + 1 := Heap.size_push ..
  have up : ∀ c o, p2.get? c = some o → (p2.push { cls := .type "tuple", data := .seq #[x1, x2] }).get? c = some o := fun c o e => Heap.get?_push_of_some _ e
  rw [hsz] at hpu hz4 ⊢
  exact hQ x1 x2 _ tk2 hx1 hx2 (up _ _ hz₃) (D1.frame _ _ _ sn1' fun b hb o e => up b o e) (D2.frame _ _ _ sn2 fun b hb o e => up b o e) hpu hz4 fun c o c1 c2 c3 e => up c o (hk c o c1 c2 c3 e)
theorem z2h_next_end {Q : Fin → Shared → Prop} {T : Addr} {f : Bool} {oT : Obj} (S : ZipSep2 z TI TO i1 i2 fp1 fp2) (D1 : Draws prog w A i1 fp1 n1 P1 St1) (D2 : Draws prog w A i2 fp2 n2 P2 St2)
    (hz : IsZipHeld s.heap z TI TO T f) (hT : s.heap.get? T = some oT) (hTI : IsTupOf2 s.heap TI (.ref i1) (.ref i2)) (st1 : St1 i s.heap) (st2 : St2 i s.heap) (hle1 : i ≤ n1) (hle2 : i ≤ n2) (hend : i = n1 ∨ i = n2)
    (hE : ∀ h' tk e, (∀ c o, c ≠ z → c ≠ i1 → c ≠ i2 → s.heap.get? c = some o → h'.get? c = some o) → (∃ o, h'.get? e = some o ∧ o.cls = .type "StopIteration") → E (.ref e) { s with heap := h', toks := tk }) :
    wpAny (model prog w) A (Builtin.«zip.__next__» ⟨[.ref z], []⟩) Q E s := by
  obtain ⟨hp, g, d, tk0, os⟩ := s
  show wpAny _ _ (field (.ref z) 2 >>= _) _ _ _
  refine wpAny_bind (wpAny_field hz rfl (x := .bool false) rfl ?_)
  show wpAny _ _ (field (.ref z) 3 >>= _) _ _ _
  refine wpAny_bind (wpAny_field hz rfl (x := .ref TI) rfl ?_)
  refine wpAny_bind (wpAny_seqItems hTI rfl ?_)
  show wpAny _ _ (Builtin.SmallTypes.ownedTupleIsFree (.ref z) >>= _) _ _ _
  refine wpAny_bind (wpAny_tupleHeld_zip hz hT fun h₁ hz₁ hs₁ => ?_)
  simp only [Bool.false_eq_true, if_false]
  refine wpAny_bind ?_
  rw [← Array.forIn_toList]
  simp only [List.forIn_cons, List.forIn_nil]
  refine wpAny_bind (wpAny_bind (wpAny_holding ?_))
  show wpAny _ _ (Builtin.SmallTypes.nextOf (.ref i1) >>= _) _ _ ⟨h₁, g, d, tk0, os⟩
  replace hs₁ : Heap.SameBut z hp h₁ := hs₁
  by_cases hlt1 : i < n1
  · refine wpAny_bind (D1.item i _ _ _ hlt1 (D1.over st1 hs₁ S.zf1) fun x1 p1 tk1 hx1 sn1 hp1 => wpAny_pure ?_)
    replace hp1 : Heap.SameBut i1 h₁ p1 := hp1
    refine wpAny_pure ?_
    have hi2 : i = n2 := by omega
    refine wpAny_bind (wpAny_bind (wpAny_holding ?_))
    show wpAny _ _ (Builtin.SmallTypes.nextOf (.ref i2) >>= _) _ _ ⟨p1, g, d, tk1, os⟩
    refine wpAny_bind (D2.done ⟨p1, g, d, tk1, os⟩ _ _ (by rw [← hi2]; exact (D2.over (D2.over st2 hs₁ S.zf2) hp1 S.sep1_2)) fun q e hq he => ?_)
    replace hq : Heap.ExtBut i2 p1 q := hq
    exact hE q tk1 e (fun c o c1 c2 c3 x => hq _ _ c3 (hp1.extBut _ _ c2 (hs₁.extBut _ _ c1 x))) he
  · have hi1 : i = n1 := by omega
    refine wpAny_bind (D1.done ⟨h₁, g, d, tk0, os⟩ _ _ (by rw [← hi1]; exact (D1.over st1 hs₁ S.zf1)) fun q e hq he => ?_)
    replace hq : Heap.ExtBut i1 h₁ q := hq
    exact hE q tk0 e (fun c o c1 c2 c3 x => hq _ _ c2 (hs₁.extBut _ _ c1 x)) he
theorem z2h_item {Q : Option Value → Shared → Prop} {T : Addr} {f : Bool} {oT : Obj} (S : ZipSep2 z TI TO i1 i2 fp1 fp2) (D1 : Draws prog w A.in1 i1 fp1 n1 P1 St1) (D2 : Draws prog w A.in1 i2 fp2 n2 P2 St2)
    (hz : IsZipHeld s.heap z TI TO T f) (hT : s.heap.get? T = some oT) (hTI : IsTupOf2 s.heap TI (.ref i1) (.ref i2)) (st1 : St1 i s.heap) (st2 : St2 i s.heap) (hlt1 : i < n1) (hlt2 : i < n2)
    (hQ : ∀ x1 x2 h' tk, P1 i x1 → P2 i x2 → IsZipHeld h' z TI TO T true → St1 (i + 1) h' → St2 (i + 1) h' → IsTupOf2 h' s.heap.objs.size x1 x2 → h'.objs.size = s.heap.objs.size + 1 →
      (∀ c o, c ≠ z → c ≠ i1 → c ≠ i2 → s.heap.get? c = some o → h'.get? c = some o) → Q (some (.ref s.heap.objs.size)) { s with heap := h', toks := tk }) :
    wpAny (model prog w) A (pyNext (.ref z)) Q E s := by
  have hTy : s.TypeIs (.ref z) "zip" := ⟨_, hz, rfl⟩
  unfold pyNext
  exact wpAny_bind (wpAny_attempt (wpAny_callSpecial?_slot (name := Str.ofString "__next__") hTy F.slot_zip_next
    (wpAny_call_entry F.slot_zip_next hTy F.entry_zip_next
      (z2h_next_item S D1 D2 hz hT hTI st1 st2 hlt1 hlt2 fun x1 x2 h' tk y1 y2 b1 d1 d2 b5 b6 b7 => wpAny_pure (hQ x1 x2 h' tk y1 y2 b1 d1 d2 b5 b6 b7)) (F.args_zip_next_1 _))))
theorem z2h_end {Q : Option Value → Shared → Prop} {T : Addr} {f : Bool} {oT : Obj} (S : ZipSep2 z TI TO i1 i2 fp1 fp2) (D1 : Draws prog w A.in1 i1 fp1 n1 P1 St1) (D2 : Draws prog w A.in1 i2 fp2 n2 P2 St2)
    (hz : IsZipHeld s.heap z TI TO T f) (hT : s.heap.get? T = some oT) (hTI : IsTupOf2 s.heap TI (.ref i1) (.ref i2)) (st1 : St1 i s.heap) (st2 : St2 i s.heap) (hle1 : i ≤ n1) (hle2 : i ≤ n2) (hend : i = n1 ∨ i = n2)
    (hQ : ∀ h' tk, (∀ c o, c ≠ z → c ≠ i1 → c ≠ i2 → s.heap.get? c = some o → h'.get? c = some o) → Q none { s with heap := h', toks := tk }) : wpAny (model prog w) A (pyNext (.ref z)) Q E s := by
  have hTy : s.TypeIs (.ref z) "zip" := ⟨_, hz, rfl⟩
  unfold pyNext
  refine wpAny_bind (wpAny_attempt (wpAny_callSpecial?_slot (name := Str.ofString "__next__") hTy F.slot_zip_next
    (wpAny_call_entry F.slot_zip_next hTy F.entry_zip_next (z2h_next_end S D1 D2 hz hT hTI st1 st2 hle1 hle2 hend fun h' tk e hk he => ?_) (F.args_zip_next_1 _))))
  obtain ⟨o, ho, hc⟩ := he
  refine wpAny_bind (wpAny_isInstance (T := "StopIteration") (b := true) ⟨o, ho, hc⟩ isSubtype_stop ?_)
  exact wpAny_pure (hQ _ _ hk)
end
theorem zip_no_len' : typeLookup (.type "zip") "__len__" = pure none := am_miss_of_fast (by decide +kernel)
theorem zip_no_hint' : typeLookup (.type "zip") "__length_hint__" = pure none := am_miss_of_fast (by decide +kernel)
end PySem
namespace RT
open PySem PySem.Spec PyProof.Rows L2
def ZSt (b1 b2 : Bool) (z TI TO i1 i2 a c : Addr) (h : Heap) (i : Nat) : Prop :=
  ((∃ x y, IsZip h z TI TO .none ∧ IsTupOf2 h TO x y) ∨ ∃ T f oT, PySem.IsZipHeld h z TI TO T f ∧ h.get? T = some oT) ∧ IsTupOf2 h TI (.ref i1) (.ref i2) ∧ ItB h b1 i1 a i ∧ ItB h b2 i2 c i ∧ TO < h.objs.size
theorem ZSt.keep {b1 b2 : Bool} {z TI TO i1 i2 a c S : Addr} {h h' : Heap} {i : Nat} (st : ZSt b1 b2 z TI TO i1 i2 a c h i) (hS : S ∉ [z, TI, TO, i1, i2]) (k : ∀ b o, b ≠ S → h.get? b = some o → h'.get? b = some o) (kS : ∃ o, h'.get? S = some o) (kz : h.objs.size ≤ h'.objs.size) : ZSt b1 b2 z TI TO i1 i2 a c h' i := by
  have ne : ∀ b ∈ [z, TI, TO, i1, i2], b ≠ S := fun b hb e => hS (e ▸ hb)
  obtain ⟨h0, h1, h2, h3, h4⟩ := st
  refine ⟨?_, k _ _ (ne _ (by simp)) h1, itB_at h2 fun o q => k _ _ (ne _ (by simp)) q, itB_at h3 fun o q => k _ _ (ne _ (by simp)) q, Nat.lt_of_lt_of_le h4 kz⟩
  rcases h0 with ⟨x, y, g1, g2⟩ | ⟨T, f, oT, g1, g2⟩
  · exact .inl ⟨x, y, k _ _ (ne _ (by simp)) g1, k _ _ (ne _ (by simp)) g2⟩
  · by_cases e : T = S
    · obtain ⟨o, ho⟩ := kS
      exact .inr ⟨T, f, o, k _ _ (ne _ (by simp)) g1, by rw [e]; exact ho⟩
    · exact .inr ⟨T, f, oT, k _ _ (ne _ (by simp)) g1, k _ _ e g2⟩
section
variable {X : Cx} {A : Around} {b1 b2 : Bool} {a c z TI TO i1 i2 S : Addr} {s : Shared} {i : Nat} {xs ys : Array Value}
theorem zl_item {prog : Program} {w : World} {Q : Option Value → Shared → Prop} {E : Value → Shared → Prop} (hh : A.handled = none) (D : ZipApart z TI TO i1 i2 a c) (st : ZSt b1 b2 z TI TO i1 i2 a c s.heap i) (p1 : ArB s.heap b1 a xs) (p2 : ArB s.heap b2 c ys) (h1 : i < xs.size) (h2 : i < ys.size)
    (hQ : ∀ x1 x2 h' tk, xs[i]? = some x1 → ys[i]? = some x2 → ZSt b1 b2 z TI TO i1 i2 a c h' (i + 1) → IsTupOf2 h' s.heap.objs.size x1 x2 → (∀ b o, b ∉ [z, TI, TO, i1, i2] → s.heap.get? b = some o → h'.get? b = some o) → Q (some (.ref s.heap.objs.size)) { s with heap := h', toks := tk }) :
    wpAny (model prog w) A (pyNext (.ref z)) Q E s := by
  have S2 := sep_of D D.l1i2 D.l2i1
  have D1 := drawsB (prog := prog) (w := w) (A := A.in1) hh b1 i1 a D.l1i1 xs
  have D2 := drawsB (prog := prog) (w := w) (A := A.in1) hh b2 i2 c D.l2i2 ys
  obtain ⟨h0, hTI, j1, j2, j3⟩ := st
  have four : ∀ {b : Addr}, b ∉ [z, TI, TO, i1, i2] → b ≠ z ∧ b ≠ TO ∧ b ≠ i1 ∧ b ≠ i2 := fun {b} hb => by
    simp only [List.mem_cons, List.not_mem_nil, or_false, not_or] at hb
    exact ⟨hb.1, hb.2.2.1, hb.2.2.2.1, hb.2.2.2.2⟩
  rcases h0 with ⟨x0, y0, hz, hTO⟩ | ⟨T, f, oT, hz, hT⟩
  · refine wpAny_pyNext_zipD2_item S2 D1 D2 hz hTI hTO ⟨j1, p1⟩ ⟨j2, p2⟩ h1 h2 fun x1 x2 h' tk e1 e2 z' TO' st1' st2' hT' hsz hk => ?_
    exact hQ x1 x2 h' tk e1 e2 ⟨.inr ⟨s.heap.objs.size, false, _, z', hT'⟩, hk _ _ D.TIz D.TITO D.TIi1 D.TIi2 hTI, st1'.1, st2'.1, by rw [hsz]; exact Nat.lt_succ_of_lt j3⟩ hT' fun b o hb q => by
      obtain ⟨n1, n2, n3, n4⟩ := four hb
      exact hk b o n1 n2 n3 n4 q
  · refine PySem.z2h_item S2 D1 D2 hz hT hTI ⟨j1, p1⟩ ⟨j2, p2⟩ h1 h2 fun x1 x2 h' tk e1 e2 z' st1' st2' hT' hsz hk => ?_
    refine hQ x1 x2 h' tk e1 e2 ⟨?_, hk _ _ D.TIz D.TIi1 D.TIi2 hTI, st1'.1, st2'.1, by rw [hsz]; exact Nat.lt_succ_of_lt j3⟩ hT' fun b o hb q => by
      obtain ⟨n1, n2, n3, n4⟩ := four hb
      exact hk b o n1 n3 n4 q
    have ht : ∃ o, h'.get? T = some o := by
      by_cases q1 : T = z
      · exact ⟨_, by rw [q1]; exact z'⟩
      · by_cases q2 : T = i1
        · obtain ⟨o, ho, _⟩ := itB_obj st1'.1
          exact ⟨o, by rw [q2]; exact ho⟩
        · by_cases q3 : T = i2
          · obtain ⟨o, ho, _⟩ := itB_obj st2'.1
            exact ⟨o, by rw [q3]; exact ho⟩
          · exact ⟨oT, hk _ _ q1 q2 q3 hT⟩
    obtain ⟨o, ho⟩ := ht
    exact .inr ⟨T, true, o, z', ho⟩
theorem zl_end {prog : Program} {w : World} {Q : Option Value → Shared → Prop} {E : Value → Shared → Prop} (hh : A.handled = none) (D : ZipApart z TI TO i1 i2 a c) (st : ZSt b1 b2 z TI TO i1 i2 a c s.heap i) (p1 : ArB s.heap b1 a xs) (p2 : ArB s.heap b2 c ys) (h1 : i ≤ xs.size) (h2 : i ≤ ys.size) (he : i = xs.size ∨ i = ys.size)
    (hQ : ∀ h' tk, (∀ b o, b ∉ [z, TI, TO, i1, i2] → s.heap.get? b = some o → h'.get? b = some o) → Q none { s with heap := h', toks := tk }) :
    wpAny (model prog w) A (pyNext (.ref z)) Q E s := by
  have S2 := sep_of D D.l1i2 D.l2i1
  have D1 := drawsB (prog := prog) (w := w) (A := A.in1) hh b1 i1 a D.l1i1 xs
  have D2 := drawsB (prog := prog) (w := w) (A := A.in1) hh b2 i2 c D.l2i2 ys
  obtain ⟨h0, hTI, j1, j2, j3⟩ := st
  have four : ∀ {b : Addr}, b ∉ [z, TI, TO, i1, i2] → b ≠ z ∧ b ≠ TO ∧ b ≠ i1 ∧ b ≠ i2 := fun {b} hb => by
    simp only [List.mem_cons, List.not_mem_nil, or_false, not_or] at hb
    exact ⟨hb.1, hb.2.2.1, hb.2.2.2.1, hb.2.2.2.2⟩
  rcases h0 with ⟨x0, y0, hz, hTO⟩ | ⟨T, f, oT, hz, hT⟩
  · exact wpAny_pyNext_zipD2_end (i := i) S2 D1 D2 hz hTI hTO ⟨j1, p1⟩ ⟨j2, p2⟩ h1 h2 he fun h' tk hk => hQ h' tk fun b o hb q => by
      obtain ⟨n1, n2, n3, n4⟩ := four hb
      exact hk b o n1 n2 n3 n4 q
  · exact PySem.z2h_end (i := i) S2 D1 D2 hz hT hTI ⟨j1, p1⟩ ⟨j2, p2⟩ h1 h2 he fun h' tk hk => hQ h' tk fun b o hb q => by
      obtain ⟨n1, n2, n3, n4⟩ := four hb
      exact hk b o n1 n3 n4 q
end
theorem FpOk.on {X : Cx} {pins : List (Addr × Obj)} {H H' : Hp} {b : Addr} (f : FpOk X pins H b) (h : H' b = none) : FpOk X pins H' b := ⟨h, f.2⟩
theorem zl_loop {X : Cx} {A : Around} (hc : X.calm = true) (hh : A.handled = none) {b1 b2 : Bool} {a c z TI TO i1 i2 S : Addr} (ap : ZipApart z TI TO i1 i2 a c) (hSn : S ∉ [z, TI, TO, i1, i2]) {O : Addr → Prop} {H0 : Hp} {xs ys : List V} {ds es : List D} (qx : SqB X.K H0 b1 a xs) (qy : SqB X.K H0 b2 c ys)
    (rx : Reps X.K O H0 xs ds) (ry : Reps X.K O H0 ys es) (al : Al O H0) (nS : H0 S = none) (hz : (zipD ds es).length ≤ sizeLine) {pins : List (Addr × Obj)} {σ : St} {R : Result → Shared → Prop} (res : Value) :
    ∀ (k i : Nat) (s : Shared) (H : Hp) (vs : List V), (zipD ds es).length - i = k → i ≤ (zipD ds es).length → Inv X pins σ H s → (∀ b ∈ [z, TI, TO, i1, i2], FpOk X pins H b) → Same H0 H → H S = some (.lst vs) → Reps X.K (fun x => O x ∨ x = S) H vs ((zipD ds es).take i) →
      ZSt b1 b2 z TI TO i1 i2 a c s.heap i →
      (∀ s' H' vs', Inv X pins σ H' s' → Same H0 H' → H' S = some (.lst vs') → Reps X.K (fun x => O x ∨ x = S) H' vs' (zipD ds es) → R (.ok (.ret res)) s') →
      codeAny (model X.prog X.w) A (.builtin "list.extend.loop" ⟨[.ref S, .ref z, res], []⟩) R s := by
  have lx := rx.length
  have ly := ry.length
  have lz := zipD_len ds es
  intro k
  induction k with
  | zero =>
    intro i s H vs hk hi I fp sm hS rr st hR
    have hin : i = (zipD ds es).length := by omega
    subst hin
    obtain ⟨its, rv, p1, _⟩ := arB_of I (qx.same sm)
    obtain ⟨its2, rv2, p2, _⟩ := arB_of I (qy.same sm)
    have l1 := rv.length
    have l2 := rv2.length
    refine codeAny_builtin F.entry_extend_loop ?_
    rw [Around.under_plainId F.plain_extend_loop _]
    show wpAny _ A.in1 (pyNext (.ref z) >>= _) _ _ s
    refine wpAny_bind (zl_end (A := A.in1) hh ap st p1 p2 (by simp; omega) (by simp; omega) (by simp; omega) fun h' tk hk' => ?_)
    rw [List.take_length] at rr
    exact wpAny_pure (hR _ H vs (I.turnedL (t' := tk) (ch := [z, TI, TO, i1, i2]) (fun b o hb q => hk' b o hb q) fp) sm hS rr)
  | succ k ih =>
    intro i s H vs hk hi I fp sm hS rr st hR
    have hlt : i < (zipD ds es).length := by omega
    obtain ⟨its, rv, p1, la⟩ := arB_of I (qx.same sm)
    obtain ⟨its2, rv2, p2, lb⟩ := arB_of I (qy.same sm)
    have l1 := rv.length
    have l2 := rv2.length
    obtain ⟨da, db, ga, gb, gz⟩ := zipD_get ds es i (zipD ds es)[i] (List.getElem?_eq_getElem hlt)
    obtain ⟨x, hx, rpx⟩ := rx.at_ ga
    obtain ⟨y, hy, rpy⟩ := ry.at_ gb
    obtain ⟨u, hu, ru⟩ := rv.get hx
    obtain ⟨u2, hu2, ru2⟩ := rv2.get hy
    have lvs : vs.length = i := by rw [rr.length, List.length_take]; omega
    refine codeAny_builtin F.entry_extend_loop ?_
    rw [Around.under_plainId F.plain_extend_loop _]
    show wpAny _ A.in1 (pyNext (.ref z) >>= _) _ _ s
    refine wpAny_bind (zl_item (A := A.in1) hh ap st p1 p2 (by simp; omega) (by simp; omega) fun x1 x2 h' tk e1 e2 st' hT hk' => ?_)
    have q1 : x1 = u := by simp only [List.getElem?_toArray] at e1; rw [hu] at e1; exact (Option.some.inj e1).symm
    have q2 : x2 = u2 := by simp only [List.getElem?_toArray] at e2; rw [hu2] at e2; exact (Option.some.inj e2).symm
    subst q1 q2
    have new : ObjOk X.prog X.w (upd H s.heap.objs.size (.tup [x, y])) h' s.heap.objs.size (.tup [x, y]) := ⟨by show 2 ≤ sizeLine; decide, [x1, x2], .cons ru (.cons ru2 .nil), ⟨_, hT, rfl, _, rfl⟩⟩
    have fr : H s.heap.objs.size = none := I.fresh
    have I1 : Inv X pins σ (upd H s.heap.objs.size (.tup [x, y])) { s with heap := h', toks := tk } := I.turnedNew (t' := tk) (ch := [z, TI, TO, i1, i2]) (fun b o hb q => hk' b o hb q) fp (Nat.le_refl _) new
    have nST : S ≠ s.heap.objs.size := fun e => by rw [← e, hS] at fr; cases fr
    have hS1 : (upd H s.heap.objs.size (.tup [x, y])) S = some (.lst vs) := by rw [upd_ne nST]; exact hS
    obtain ⟨items, cap, rvs, ho, _⟩ := I1.lst hS1
    have lit := rvs.length
    show wpAny _ A.in1 (updateSeq S (·.push (.ref s.heap.objs.size)) >>= _) _ _ _
    refine wpAny_bind ?_
    have hsz2 : (vs ++ [V.ref s.heap.objs.size]).length ≤ sizeLine := by rw [List.length_append, lvs]; exact Nat.le_trans hlt hz
    have rvs2 : Vals (vs ++ [V.ref s.heap.objs.size]) (items ++ [Value.ref s.heap.objs.size]) := rvs.append (.cons (show L2.RelV (V.ref s.heap.objs.size) (Value.ref s.heap.objs.size) from rfl) .nil)
    have I2 : Inv X pins σ (upd (upd H s.heap.objs.size (.tup [x, y])) S (.lst (vs ++ [.ref s.heap.objs.size]))) { s with heap := h'.update S (Obj.mapSeq (·.push (.ref s.heap.objs.size))), toks := tk } :=
      I1.lset (t' := tk) (its' := items ++ [.ref s.heap.objs.size]) (f := (·.push (.ref s.heap.objs.size))) hS1 ho (by simp) rvs2 hsz2
    have hso : items.toArray.size ≤ sizeLine := by rw [List.size_toArray, ← lit, lvs]; exact Nat.le_trans (Nat.le_of_lt hlt) hz
    refine wpAny_updateSeq ho rfl (wpAny_pure ⟨plainId_quiet F.plain_extend_loop _, ?_⟩) hso (by rw [Array.size_push]; exact Nat.succ_le_succ hso)
    have oth : ∀ b o, b ≠ S → h'.get? b = some o → (h'.update S (Obj.mapSeq (·.push (.ref s.heap.objs.size)))).get? b = some o := fun b o hb e => (Heap.get?_update_other _ _ (Ne.symm hb)).trans e
    have self : ∃ o, (h'.update S (Obj.mapSeq (·.push (.ref s.heap.objs.size)))).get? S = some o := ⟨_, Heap.get?_update_self _ ho rfl⟩
    have exS : Ext (fun b => b = S) (upd H s.heap.objs.size (.tup [x, y])) (upd (upd H s.heap.objs.size (.tup [x, y])) S (.lst (vs ++ [.ref s.heap.objs.size]))) := fun b o n e => by rw [upd_ne n]; exact e
    have sm1 : Same H0 (upd H s.heap.objs.size (.tup [x, y])) := sm.trans (same_new fr)
    have nOT : ¬ (O s.heap.objs.size ∨ s.heap.objs.size = S) := fun z => z.elim (fun z => by
      have := (al.same sm) _ z
      exact this fr) fun e => nST e.symm
    have rpx' : Rep X.K (fun x => O x ∨ x = S) (upd H s.heap.objs.size (.tup [x, y])) x da := (rpx.shun (O' := fun x => O x ∨ x = S) fun b z => z.imp id fun e => by rw [e]; exact nS).same sm1
    have rpy' : Rep X.K (fun x => O x ∨ x = S) (upd H s.heap.objs.size (.tup [x, y])) y db := (rpy.shun (O' := fun x => O x ∨ x = S) fun b z => z.imp id fun e => by rw [e]; exact nS).same sm1
    have rpT : Rep X.K (fun x => O x ∨ x = S) (upd H s.heap.objs.size (.tup [x, y])) (.ref s.heap.objs.size) (.tup [da, db]) := .tup (.inl ⟨.inl upd_same, nOT⟩) (.cons rpx' (.cons rpy' .nil))
    have rr2 : Reps X.K (fun x => O x ∨ x = S) (upd (upd H s.heap.objs.size (.tup [x, y])) S (.lst (vs ++ [.ref s.heap.objs.size]))) (vs ++ [.ref s.heap.objs.size]) ((zipD ds es).take (i + 1)) := by
      rw [List.take_succ, List.getElem?_eq_getElem hlt, gz]
      exact (((rr.same (same_new fr)).append (Reps.one rpT))).ext exS fun b e => .inr e
    refine ih (i + 1) _ _ _ (by omega) hlt I2 (fun b hb => FpOk.on (fp b hb) ?_) (fun b o e => ?_) upd_same rr2 (st'.keep hSn oth self (Nat.le_of_eq (Heap.SameBut.update ..).1.symm)) hR
    · have n1 : b ≠ S := fun e => hSn (e ▸ hb)
      rw [upd_ne n1]
      have hbn := (fp b hb).1
      by_cases e : b = s.heap.objs.size
      · -- the chain's cells were there
        exfalso
        obtain ⟨h0, g1, g2, g3, g4⟩ := st
        have lt : b < s.heap.objs.size := by
          have e' : b = z ∨ b = TI ∨ b = TO ∨ b = i1 ∨ b = i2 := by simpa using hb
          rcases e' with q | q | q | q | q
          · rw [q]
            rcases h0 with ⟨_, _, g, _⟩ | ⟨_, _, _, g, _⟩
            · exact Heap.lt_size g
            · exact Heap.lt_size g
          · rw [q]; exact Heap.lt_size g1
          · rw [q]; exact g4
          · rw [q]; exact itB_lt g2
          · rw [q]; exact itB_lt g3
        rw [e] at lt
        exact Nat.lt_irrefl _ lt
      · rw [upd_ne e]; exact hbn
    · have n1 : b ≠ S := fun q => by rw [q, nS] at e; cases e
      rw [upd_ne n1]
      exact sm1 b o e
theorem zl_call {X : Cx} {A : Around} (hc : X.calm = true) (hh : A.handled = none) {b1 b2 : Bool} {a c z TI TO i1 i2 : Addr} (ap : ZipApart z TI TO i1 i2 a c) {O : Addr → Prop} {H0 : Hp} {xs ys : List V} {ds es : List D} (qx : SqB X.K H0 b1 a xs) (qy : SqB X.K H0 b2 c ys)
    (rx : Reps X.K O H0 xs ds) (ry : Reps X.K O H0 ys es) (al : Al O H0) (hz : (zipD ds es).length ≤ sizeLine) {pins : List (Addr × Obj)} {σ : St} {E : Value → Shared → Prop} {s : Shared} {Q : Value → Shared → Prop} (I : Inv X pins σ H0 s)
    (fp : ∀ b ∈ [z, TI, TO, i1, i2], FpOk X pins H0 b) (st : ZSt b1 b2 z TI TO i1 i2 a c s.heap 0) (hzz : IsZip s.heap z TI TO .none) (lt : ∀ b ∈ [z, TI, TO, i1, i2], b < s.heap.objs.size)
    (hQ : ∀ s' q H' vs', Inv X pins σ H' s' → H0 q = none → Same H0 H' → H' q = some (.lst vs') → Reps X.K (fun x => O x ∨ x = q) H' vs' (zipD ds es) → Q (.ref q) s') :
    wpAny (model X.prog X.w) A (call (.type "list") [.ref z]) Q E s := by
  have hSn : s.heap.objs.size ∉ [z, TI, TO, i1, i2] := fun hm => Nat.lt_irrefl _ (lt _ hm)
  have fr : H0 s.heap.objs.size = none := I.fresh
  refine callType_codes (Q₁ := fun obj s₁ => obj = .ref s.heap.objs.size ∧ s₁ = { s with heap := s.heap.push { cls := .type "list", data := .seq #[] } }) F.called_list (F.typeCall_list_1 _) F.entry_list_init
    (code_list_new _ ⟨rfl, rfl⟩) fun obj s₁ h₁ => ?_
  obtain ⟨rfl, rfl⟩ := h₁
  have hS : (s.heap.push { cls := .type "list", data := .seq #[] }).get? s.heap.objs.size = some { cls := .type "list", data := .seq #[] } := Heap.get?_push_size _ rfl
  have I1 : Inv X pins σ (upd H0 s.heap.objs.size (.lst [])) { s with heap := s.heap.push { cls := .type "list", data := .seq #[] } } := I.lnew (t' := s.toks) (its := []) .nil (Nat.zero_le _)
  have st1 : ZSt b1 b2 z TI TO i1 i2 a c (s.heap.push { cls := .type "list", data := .seq #[] }) 0 := st.keep hSn (fun b o _ e => Heap.get?_push_of_some _ e) ⟨_, hS⟩ (by rw [Heap.size_push]; exact Nat.le_succ _)
  refine ⟨⟨_, hS, rfl⟩, F.args_list_init_2 _ _, ?_⟩
  show wpAny _ A.in1.in1 (do let old ← Builtin.List.listItems (.ref s.heap.objs.size); Builtin.List.listUpdate (.ref s.heap.objs.size) (fun _ => #[]); letGo old.toList.reverse; Builtin.List.listExtendWith (.ref s.heap.objs.size) (.ref z) .none) _ _ { s with heap := s.heap.push { cls := .type "list", data := .seq #[] } }
  refine wpAny_bind ?_
  unfold Builtin.List.listItems
  refine wpAny_bind (wpAny_seqItems hS rfl (wpAny_pure ?_))
  show wpAny _ A.in1.in1 (updateSeq s.heap.objs.size (fun _ => #[]) >>= fun _ => letGo (#[] : Array Value).toList.reverse >>= fun _ => Builtin.List.listExtendWith (.ref s.heap.objs.size) (.ref z) .none) _ _ { s with heap := s.heap.push { cls := .type "list", data := .seq #[] } }
  have wr : ∀ {g : Heap} {t : Nat} {us : List V} {its its' : List Value} {n : Nat} {f : Array Value → Array Value} {us' : List V}, Inv X pins σ (upd H0 s.heap.objs.size (.lst us)) { s with heap := g, toks := t } → g.get? s.heap.objs.size = some { cls := .type "list", data := .seq its.toArray n } → f its.toArray = its'.toArray → Vals us' its' → us'.length ≤ sizeLine →
      Inv X pins σ (upd H0 s.heap.objs.size (.lst us')) { s with heap := g.update s.heap.objs.size (Obj.mapSeq f), toks := t } := fun {g t us its its' n f us'} J e hf hv hl => by
    have h := J.lset (t' := t) (l := s.heap.objs.size) (xs := us) upd_same e hf hv hl
    have e2 : upd (upd H0 s.heap.objs.size (.lst us)) s.heap.objs.size (.lst us') = upd H0 s.heap.objs.size (.lst us') := by
      funext b
      by_cases hb : b = s.heap.objs.size
      · rw [hb, upd_same, upd_same]
      · rw [upd_ne hb, upd_ne hb, upd_ne hb]
    rw [e2] at h
    exact h
  have zk : ∀ {g : Heap} {f : Obj → Obj}, ZSt b1 b2 z TI TO i1 i2 a c g 0 → (∃ o, g.get? s.heap.objs.size = some o) → (∃ o, (g.update s.heap.objs.size f).get? s.heap.objs.size = some o) → ZSt b1 b2 z TI TO i1 i2 a c (g.update s.heap.objs.size f) 0 := fun {g f} k _ h2 =>
    k.keep hSn (fun b o hb e => (Heap.get?_update_other _ _ (Ne.symm hb)).trans e) h2 (Nat.le_of_eq (Heap.SameBut.update ..).1.symm)
  refine wpAny_bind (wpAny_updateSeq hS rfl ?_)
  have hS₂ := Heap.get?_update_self (Obj.mapSeq (fun _ => (#[] : Array Value))) hS rfl
  have I2 := wr (t := s.toks) (its := []) (its' := []) (f := fun _ => #[]) (us' := []) I1 hS rfl .nil (Nat.zero_le _)
  have st2 := zk (f := Obj.mapSeq (fun _ => (#[] : Array Value))) st1 ⟨_, hS⟩ ⟨_, hS₂⟩
  refine wpAny_bind (wpAny_letGo ?_)
  unfold Builtin.List.listExtendWith
  have tz : ∀ {g : Heap} {t : Nat}, ZSt b1 b2 z TI TO i1 i2 a c g 0 → ({ s with heap := g, toks := t } : Shared).TypeIs (.ref z) "zip" := fun {g t} k => by
    rcases k.1 with ⟨x, y, q, _⟩ | ⟨T, f, oT, q, _⟩
    · exact ⟨_, q, rfl⟩
    · exact ⟨_, q, rfl⟩
  have T2 := tz (t := s.toks) st2
  refine wpAny_bind (wpAny_typeOf T2 ?_)
  have h1 : Builtin.List.listSameRef (.ref s.heap.objs.size) (.ref z) = false := by
    have : s.heap.objs.size ≠ z := fun e => hSn (by rw [e]; simp)
    simp [Builtin.List.listSameRef, this]
  have h2 : (Value.type "zip" == Value.type "list") = false := by decide
  have h3 : (Value.type "zip" == Value.type "tuple") = false := by decide
  simp only [h1, h2, h3, Bool.or_false, Bool.false_eq_true, if_false]
  refine wpAny_bind ?_
  have nz : s.heap.objs.size ≠ z := fun e => hSn (by rw [e]; simp)
  have hz2 : IsZip ((s.heap.push { cls := .type "list", data := .seq #[] }).update s.heap.objs.size (Obj.mapSeq (fun _ => (#[] : Array Value)))) z TI TO .none := (Heap.get?_update_other _ _ nz).trans (Heap.get?_push_of_some _ hzz)
  refine wpAny_pyIter_zip hz2 ?_
  refine wpAny_bind (wpAny_holding ?_)
  unfold Builtin.List.listLengthHint
  refine wpAny_bind (wpAny_specialOf T2 PySem.zip_no_len' ?_)
  show wpAny _ A.in1.in1 (specialOf (Value.ref z) (Str.ofString "__length_hint__") >>= _) _ _ _
  refine wpAny_bind (wpAny_specialOf T2 PySem.zip_no_hint' ?_)
  refine wpAny_pure ?_
  show wpAny _ A.in1.in1 (rule "list.extend.makes-room" >>= fun _ => Builtin.List.listTouch (.ref s.heap.objs.size) >>= fun _ =>
    again (.builtin "list.extend.loop" ⟨[.ref s.heap.objs.size, .ref z, .none], []⟩)) _ _ _
  refine wpAny_bind (wpAny_rule ?_)
  refine wpAny_bind ?_
  show wpAny _ A.in1.in1 (updateSeq s.heap.objs.size (·.push .none) >>= fun _ => updateSeq s.heap.objs.size (·.pop)) _ _ _
  refine wpAny_bind (wpAny_updateSeq hS₂ rfl ?_ (by exact Nat.zero_le _) (by show (#[Value.none] : Array Value).size ≤ _; exact Nat.le_add_left 1 _))
  have hS₃ := Heap.get?_update_self (Obj.mapSeq (·.push Value.none)) hS₂ rfl
  have I3 := wr (t := s.toks) (its := []) (its' := [.none]) (f := (·.push Value.none)) (us' := [.non]) I2 hS₂ rfl (.cons rfl .nil) (by decide)
  have st3 := zk (f := Obj.mapSeq (·.push Value.none)) st2 ⟨_, hS₂⟩ ⟨_, hS₃⟩
  refine wpAny_updateSeq hS₃ rfl ?_ (by show (#[Value.none] : Array Value).size ≤ _; decide) (by show (#[] : Array Value).size ≤ _; exact Nat.zero_le _)
  have hS₄ := Heap.get?_update_self (Obj.mapSeq (·.pop)) hS₃ rfl
  have I4 := wr (t := s.toks) (its := [.none]) (its' := []) (f := (·.pop)) (us' := []) I3 hS₃ rfl .nil (Nat.zero_le _)
  have st4 := zk (f := Obj.mapSeq (·.pop)) st3 ⟨_, hS₃⟩ ⟨_, hS₄⟩
  refine wpAny_pure ⟨plainId_quiet F.plain_extend_loop _, zl_loop (A := A.in1) hc hh ap hSn qx qy rx ry al fr hz .none _ 0 _ (upd H0 s.heap.objs.size (.lst [])) [] rfl (Nat.zero_le _) I4 (fun b hb => FpOk.on (fp b hb) ?_) (same_new fr) upd_same .nil st4 fun s' H' vs' I' sm hq rr => ?_⟩
  · have n1 : b ≠ s.heap.objs.size := fun e => hSn (e ▸ hb)
    rw [upd_ne n1]
    exact (fp b hb).1
  · exact ⟨rfl, hQ s' _ H' vs' I' fr sm hq rr⟩
def tLZ (K : PySem.W.Frag) (ta : TA) : TE := fun σ H Q => ta σ H fun vs H1 => ∃ (b1 b2 : Bool) (a c : Addr) (xs ys : List V) (O : Addr → Prop) (ds es : List D), vs = [.ref a, .ref c] ∧ SqB K H1 b1 a xs ∧ SqB K H1 b2 c ys ∧ Reps K O H1 xs ds ∧ Reps K O H1 ys es ∧ Al O H1 ∧ (zipD ds es).length ≤ sizeLine ∧
  ∀ q H' vs', H1 q = none → Same H1 H' → H' q = some (.lst vs') → Reps K (fun x => O x ∨ x = q) H' vs' (zipD ds es) → Q (.ref q) H'
theorem pe_listZip {X : Cx} {e e2 : Expr} {ta : TA} {pp p1 p2 pos : Pos} (hc : X.calm = true) (hg : Gl X "list") (hm : X.mg "list" = none) (hg2 : Gl X "zip") (hm2 : X.mg "zip" = none) (ha : PA X [e, e2] ta)
    (hs : starEach [e, e2] X.env = (false, eval e X.env) :: starEach [e2] X.env := by rfl) (hpl : (backTo p2 (starEach [e2] X.env)).any (·.1) = false := by rfl)
    (na : starEach [Expr.Call (.Name "zip" p1) [e, e2] [] p2] X.env = (false, eval (Expr.Call (.Name "zip" p1) [e, e2] [] p2) X.env) :: starEach [] X.env := by rfl) :
    PE X (.Call (.Name "list" pp) [.Call (.Name "zip" p1) [e, e2] [] p2] [] pos) (tLZ X.K ta) := by
  refine ⟨fun pins s σ H Q I h => ?_⟩
  refine Call_ (ld_blt I hg hm (u := .type "list") (by decide +kernel) (PyProof.Rows.callWith_type1 (args_cons (Call_ (ld_blt I hg2 hm2 PyProof.Rows.boot_zip (PyProof.Rows.callWith_type1 (thn (ha.run p2 pins s σ H _ I h) fun us s1 ⟨vs, H1, I1, r1, q1⟩ => ?_) hs hpl))) na) na))
  obtain ⟨b1, b2, a, b, xs, ys, O, ds, es, ex, hqx, hqy, rx, ry, al, hz, q⟩ := q1
  subst ex
  cases r1 with
  | cons r rr =>
    cases rr with
    | cons r' rr =>
      cases rr
      cases r
      cases r'
      obtain ⟨its, rv, g1, la⟩ := arB_of I1 hqx
      obtain ⟨its2, rv2, g2, lb⟩ := arB_of I1 hqy
      refine zip_begins2 (beginsB b1 a its.toArray) (beginsB b2 b its2.toArray) g1 g2 fun h' hz' hTI hTO h1 h2 hsz hk => args_nil ?_
      have I2 : Inv X pins σ H1 { s1 with heap := h' } := I1.kept (t' := s1.toks) hk
      have ge : ∀ c ∈ [s1.heap.objs.size + 4, s1.heap.objs.size + 2, s1.heap.objs.size + 3, s1.heap.objs.size, s1.heap.objs.size + 1], s1.heap.objs.size ≤ c := fun c hcm => by
        have e' : c = s1.heap.objs.size + 4 ∨ c = s1.heap.objs.size + 2 ∨ c = s1.heap.objs.size + 3 ∨ c = s1.heap.objs.size ∨ c = s1.heap.objs.size + 1 := by simpa using hcm
        rcases e' with z | z | z | z | z
        · rw [z]; exact Nat.le_add_right _ _
        · rw [z]; exact Nat.le_add_right _ _
        · rw [z]; exact Nat.le_add_right _ _
        · rw [z]; exact Nat.le_refl _
        · rw [z]; exact Nat.le_add_right _ _
      have st : ZSt b1 b2 (s1.heap.objs.size + 4) (s1.heap.objs.size + 2) (s1.heap.objs.size + 3) s1.heap.objs.size (s1.heap.objs.size + 1) a b h' 0 := ⟨.inl ⟨_, _, hz', hTO⟩, hTI, itB_new h1, itB_new h2, Heap.lt_size hTO⟩
      refine zl_call (s := { s1 with heap := h' }) hc (I1.ok.hd hc) (PySem.W.ktu_apart s1.heap.objs.size a b la lb) hqx hqy rx ry al hz I2 (fun c hcm => I1.fpOk (ge c hcm) (I1.hok.fresh (ge c hcm))) st hz' (fun c hcm => ?_) fun s' q' H' vs' I' n sm hq rr => ⟨.ref q', H', I', rfl, q q' H' vs' n sm hq rr⟩
      have e' : c = s1.heap.objs.size + 4 ∨ c = s1.heap.objs.size + 2 ∨ c = s1.heap.objs.size + 3 ∨ c = s1.heap.objs.size ∨ c = s1.heap.objs.size + 1 := by simpa using hcm
      rcases e' with z | z | z | z | z
      · rw [z]; exact Heap.lt_size hz'
      · rw [z]; exact Heap.lt_size hTI
      · rw [z]; exact Heap.lt_size hTO
      · rw [z]; exact Heap.lt_size h1
      · rw [z]; exact Heap.lt_size h2
end RT
namespace RT
open PySem PySem.Spec PyProof.Rows L2
section
variable {K : PySem.W.Frag} {w w1 w2 : Bool} {X : Cx} {E : XK} {p q : Bool} {a b e : Expr} {fe fa fb : ES} {pp pos p1 p2 : Pos}
theorem EV.wk (h : EV X E p w e fe) : EV X E p true e fe := by
  obtain ⟨t, pt, rt⟩ := h.ex
  exact ⟨t, pt, fun O W σ H ρ Q s h => rt O W σ H ρ Q s (h.mono (fun x hx v H' po r => hx v H' po r.weak) fun _ _ z => z)⟩
def dNeg : D → Option D
  | .int i => some (.int (-i))
  | _ => none
theorem ud_neg : Ud K w (rU fun i => .int (-i)) dNeg := by
  intro O H x a c Q al r e hq
  cases a <;> cases e
  exact ⟨_, r.int_inv, hq _ H (same_refl H) (.int _)⟩
theorem op_isNot1 : OpR X (compareOp .IsNot) (fun x y H Q => y = .non ∧ Q (.bl (!decide (x = .non))) H) := op_notN
def dIAdd (a b : D) : Option D := match a, b with
  | .int i, .int j => some (.int (i + j))
  | _, _ => none
def oZip (f g : ES) : AS := fun ρ => (f ρ).bind fun x => (g x.2).bind fun y => (ofO (seqD x.1)).bind fun ds => (ofO (seqD y.1)).bind fun es => if (zipD ds es).length ≤ sizeLine then .ok (zipD ds es, y.2) else .bad
theorem eo_listZip (hc : X.calm = true) (hg : Gl X "list") (hm : X.mg "list" = none) (hg2 : Gl X "zip") (hm2 : X.mg "zip" = none) (ha : EV X E p w1 a fa) (hb : EV X E q w2 b fb) (hw : (!w1 || q) = true := by rfl)
    (n1 : starEach [a, b] X.env = (false, eval a X.env) :: starEach [b] X.env := by rfl) (n2 : starEach [b] X.env = (false, eval b X.env) :: starEach [] X.env := by rfl) (n3 : (backTo p2 (starEach [b] X.env)).any (·.1) = false := by rfl)
    (n4 : starEach [Expr.Call (.Name "zip" p1) [a, b] [] p2] X.env = (false, eval (Expr.Call (.Name "zip" p1) [a, b] [] p2) X.env) :: starEach [] X.env := by rfl) :
    EO X E (p && q) (.Call (.Name "list" pp) [.Call (.Name "zip" p1) [a, b] [] p2] [] pos) (oZip fa fb) := by
  obtain ⟨ta, pa, ra⟩ := ha.ex
  obtain ⟨tb, pb, rb⟩ := hb.ex
  refine ⟨_, pe_listZip hc hg hm hg2 hm2 (pa_cons pa (pa_cons pb pa_nil n2) n1) n1 n3 n4, fun O W σ H ρ Q s h => ?_⟩
  refine ra O W σ H ρ _ s (h.bind.mono (fun x hx v H1 po r1 => ?_) fun _ _ z => z)
  refine rb O W σ H1 x.2 _ po.st (hx.bind.mono (fun y hy u H2 po2 r2 => ?_) fun _ _ z => z.on po.ext)
  obtain ⟨ds, eds, hy⟩ := hy.bind.ofO
  obtain ⟨es, ees, hy⟩ := (Wr.bind hy).ofO
  have p12 := po.trans po2
  obtain ⟨b1, a1, xs, rfl, g1⟩ := gs_of (po2.keepW hw r1) eds
  obtain ⟨b2, a2, ys, rfl, g2⟩ := gs_of r2 ees
  by_cases hz : (zipD ds es).length ≤ sizeLine
  · rw [if_pos hz] at hy
    refine ⟨b1, b2, a1, a2, xs, ys, O, ds, es, rfl, g1.1, g2.1, g1.2.1, g2.2.1, po2.st.al, hz, fun q H' vs' n sm hq rr => ?_⟩
    exact hy q vs' H' (p12.free' n) (p12.more sm) (po2.st.grow2 sm n hq) hq rr
  · rw [if_neg hz] at hy
    exact hy.elim
end
end RT
namespace RT
open PySem PySem.Spec PyProof.Rows L2
def flatD : D → Bool
  | .non => true
  | .bl _ => true
  | .int _ => true
  | .str _ => true
  | _ => false
def eqF : D → D → Bool
  | .non, .non => true
  | .bl a, .bl b => a == b
  | .bl a, .int b => (if a then 1 else 0) == b
  | .int a, .bl b => a == (if b then 1 else 0)
  | .int a, .int b => a == b
  | .str a, .str b => a == b
  | _, _ => false
def inD (a : D) (ds : List D) : Option Bool :=
  if flatD a = true ∧ ds.all flatD = true then some (ds.any fun z => eqF z a)
  else if SeqAt.shaped (dP a) = true ∧ SeqAt.shaped (dP (.lst ds)) = true then some ((dPs ds).any fun z => PyData.eqv z (dP a)) else none
def dIn (a b : D) : Option D := match a, b with
  | a, .lst ds => (inD a ds).map .bl
  | a, .tup ds => (inD a ds).map .bl
  | .str i, .str j => some (.bl (!(Builtin.Str.occurrences j i 0 j.length 1).isEmpty))
  | _, _ => none
def dNotIn (a b : D) : Option D := match a, b with
  | a, .lst ds => (inD a ds).map fun k => .bl (!k)
  | a, .tup ds => (inD a ds).map fun k => .bl (!k)
  | .str i, .str j => some (.bl (!(!(Builtin.Str.occurrences j i 0 j.length 1).isEmpty)))
  | _, _ => none
section
variable {K : PySem.W.Frag} {w w1 w2 : Bool} {X : Cx} {E : XK} {p q : Bool}
theorem flat_rep {O : Addr → Prop} {H : Hp} {v : V} {d : D} (r : RepW w K O H v d) (f : flatD d = true) : flatV v = true := by
  cases d with
  | non => rw [r.non_inv]; rfl
  | bl b => rw [r.bl_inv]; rfl
  | int b => rw [r.int_inv]; rfl
  | str b => rw [r.str_inv]; rfl
  | tup b => cases f
  | lst b => cases f
theorem eq_rep {O : Addr → Prop} {H : Hp} {v u : V} {d e : D} (r : RepW w K O H v d) (r2 : RepW w2 K O H u e) (f : flatD d = true) (f2 : flatD e = true) : eqV v u = eqF d e := by
  cases d <;> first | (cases f; done) | skip
  all_goals (cases e <;> first | (cases f2; done) | skip)
  all_goals first
    | rw [r.non_inv] | rw [r.bl_inv] | rw [r.int_inv] | rw [r.str_inv]
  all_goals first
    | rw [r2.non_inv] | rw [r2.bl_inv] | rw [r2.int_inv] | rw [r2.str_inv]
  all_goals rfl
theorem flat_reps {O : Addr → Prop} {H : Hp} : ∀ {vs : List V} {ds : List D}, Reps K O H vs ds → ds.all flatD = true → vs.all flatV = true
  | _, _, .nil, _ => rfl
  | _, _, .cons r t, f => by
    rw [List.all_cons, Bool.and_eq_true] at f
    rw [List.all_cons, flat_rep (w := false) (.inl r) f.1, flat_reps t f.2]
    rfl
theorem any_reps {O : Addr → Prop} {H : Hp} {x : V} {a : D} (rx : RepW w K O H x a) (fx : flatD a = true) : ∀ {vs : List V} {ds : List D}, Reps K O H vs ds → ds.all flatD = true → inV x vs = ds.any fun z => eqF z a
  | _, _, .nil, _ => rfl
  | _, _, .cons (d := d) r t, f => by
    rw [List.all_cons, Bool.and_eq_true] at f
    have ih := any_reps rx fx t f.2
    unfold inV at ih ⊢
    rw [List.any_cons, List.any_cons, ih, eq_rep (w := false) (.inl r) rx f.1 fx]
def rInT (K : PySem.W.Frag) : R2 := fun x y H Q => ∃ d ds, Dp K H x d ∧ Dp K H y (.tuple ds) ∧ SeqAt.shaped d = true ∧ SeqAt.shaped (.tuple ds) = true ∧ Q (.bl (ds.any fun z => PyData.eqv z d)) H
def rNotInT (K : PySem.W.Frag) : R2 := fun x y H Q => ∃ d ds, Dp K H x d ∧ Dp K H y (.tuple ds) ∧ SeqAt.shaped d = true ∧ SeqAt.shaped (.tuple ds) = true ∧ Q (.bl (!ds.any fun z => PyData.eqv z d)) H
theorem room_t {A : Around} {d : PyData} {ds : List PyData} (h : SeqAt.shaped d = true) (hu : A.units + 65 < cLine) : A.units + 1 + min (PyData.depthAll ds) d.depth < cLine := by
  have := SeqAt.depth_of_shaped h
  omega
theorem op_inT (hu : X.A.units + 65 < cLine) : OpR X (compareOp .In) (rInT X.K) := by
  intro pins s σ H x y v u Q I rx ry h
  obtain ⟨d, ds, hd, he, sd, se, q⟩ := h
  obtain ⟨as, r1⟩ := Dp.reads I d x v hd rx
  obtain ⟨bs, r2⟩ := Dp.reads I (.tuple ds) y u he ry
  exact SeqAt.in_tuple_reads r2 r1 (by simpa [PyData.canLay0] using SeqAt.canLay_of_shaped se) (SeqAt.canLay_of_shaped sd) (room_t sd hu) ⟨.bl _, H, I, rfl, q⟩
theorem op_notInT (hu : X.A.units + 65 < cLine) : OpR X (compareOp .NotIn) (rNotInT X.K) := by
  intro pins s σ H x y v u Q I rx ry h
  obtain ⟨d, ds, hd, he, sd, se, q⟩ := h
  obtain ⟨as, r1⟩ := Dp.reads I d x v hd rx
  obtain ⟨bs, r2⟩ := Dp.reads I (.tuple ds) y u he ry
  exact SeqAt.notIn_tuple_reads r2 r1 (by simpa [PyData.canLay0] using SeqAt.canLay_of_shaped se) (SeqAt.canLay_of_shaped sd) (room_t sd hu) ⟨.bl _, H, I, rfl, q⟩
def rStrIn : R2 := fun x y H Q => ∃ i j, x = .str i ∧ y = .str j ∧ Q (.bl (!(Builtin.Str.occurrences j i 0 j.length 1).isEmpty)) H
def rStrNot : R2 := fun x y H Q => ∃ i j, x = .str i ∧ y = .str j ∧ Q (.bl (!(!(Builtin.Str.occurrences j i 0 j.length 1).isEmpty))) H
def rInA (K : PySem.W.Frag) : R2 := fun x y H Q => rIn K false x y H Q ∨ rInD K x y H Q ∨ rInT K x y H Q ∨ rStrIn x y H Q
def rNotInA (K : PySem.W.Frag) : R2 := fun x y H Q => rIn K true x y H Q ∨ rNotInD K x y H Q ∨ rNotInT K x y H Q ∨ rStrNot x y H Q
theorem op_inA (hu : X.A.units + 65 < cLine) : OpR X (compareOp .In) (rInA X.K) := OpR.or' op_in_seq (OpR.or' (op_inD hu) (OpR.or' (op_inT hu) op_in_str))
theorem op_notInA (hu : X.A.units + 65 < cLine) : OpR X (compareOp .NotIn) (rNotInA X.K) := OpR.or' op_notIn_seq (OpR.or' (op_notInD hu) (OpR.or' (op_notInT hu) op_notin_str))
theorem Room.units65 {k : Nat} {A : Around} (r : Room k A) : A.units + 65 < cLine := by have := r.un; omega
theorem inD_some {a : D} {ds : List D} {k : Bool} (h : inD a ds = some k) : (flatD a = true ∧ ds.all flatD = true ∧ k = ds.any fun z => eqF z a) ∨ (SeqAt.shaped (dP a) = true ∧ SeqAt.shaped (dP (.lst ds)) = true ∧ k = (dPs ds).any fun z => PyData.eqv z (dP a)) := by
  unfold inD at h
  split at h
  · rename_i hh
    exact .inl ⟨hh.1, hh.2, (Option.some.inj h).symm⟩
  · split at h
    · rename_i hh
      exact .inr ⟨hh.1, hh.2, (Option.some.inj h).symm⟩
    · cases h
theorem shaped_tup {ds : List D} (h : SeqAt.shaped (dP (.lst ds)) = true) : SeqAt.shaped (.tuple (dPs ds)) = true := by
  simpa [SeqAt.shaped, dP, PyData.canLay0, PyData.depth] using h
theorem od_in : Od K w1 w2 (rInA K) dIn := by
  intro O H x y a b c Q al r1 r2 e hq
  have seq : ∀ {l : Addr} {vs : List V} {ds : List D}, y = .ref l → (SqL K H l vs ∨ SqT K H l vs) → Reps K O H vs ds → (inD a ds).map D.bl = some c → (b = .lst ds ∨ b = .tup ds) → rInA K x y H Q := fun {l vs ds} ey hs rr e hb => by
    cases hk : inD a ds with
    | none => rw [hk] at e; cases e
    | some k =>
      rw [hk] at e
      cases e
      rcases inD_some hk with ⟨f1, f2, rfl⟩ | ⟨f1, f2, rfl⟩
      · refine .inl ⟨l, vs, ey, hs, flat_rep r1 f1, flat_reps rr f2, ?_⟩
        show Q (.bl (inV x vs)) H
        rw [any_reps r1 f1 rr f2]
        exact hq _ H (same_refl H) (.bl _)
      · rcases hb with rfl | rfl
        · exact .inr (.inl ⟨_, _, r1.dp, r2.dp, f1, f2, hq _ H (same_refl H) (.bl _)⟩)
        · exact .inr (.inr (.inl ⟨_, _, r1.dp, r2.dp, f1, shaped_tup f2, hq _ H (same_refl H) (.bl _)⟩))
  cases b with
  | lst ds =>
    obtain ⟨l, vs, ey, h1, h2⟩ := r2.lst_inv
    exact seq ey (.inl h1) h2 (by cases a <;> exact e) (.inl rfl)
  | tup ds =>
    obtain ⟨l, vs, ey, h1, h2⟩ := r2.tup_inv
    exact seq ey (.inr h1.sq) h2 (by cases a <;> exact e) (.inr rfl)
  | str j =>
    cases a <;> first | (cases e; done) | skip
    cases e
    exact .inr (.inr (.inr ⟨_, _, r1.str_inv, r2.str_inv, hq _ H (same_refl H) (.bl _)⟩))
  | _ => cases a <;> cases e
theorem od_notIn : Od K w1 w2 (rNotInA K) dNotIn := by
  intro O H x y a b c Q al r1 r2 e hq
  have seq : ∀ {l : Addr} {vs : List V} {ds : List D}, y = .ref l → (SqL K H l vs ∨ SqT K H l vs) → Reps K O H vs ds → (inD a ds).map (fun k => D.bl (!k)) = some c → (b = .lst ds ∨ b = .tup ds) → rNotInA K x y H Q := fun {l vs ds} ey hs rr e hb => by
    cases hk : inD a ds with
    | none => rw [hk] at e; cases e
    | some k =>
      rw [hk] at e
      cases e
      rcases inD_some hk with ⟨f1, f2, rfl⟩ | ⟨f1, f2, rfl⟩
      · refine .inl ⟨l, vs, ey, hs, flat_rep r1 f1, flat_reps rr f2, ?_⟩
        show Q (.bl (!(inV x vs))) H
        rw [any_reps r1 f1 rr f2]
        exact hq _ H (same_refl H) (.bl _)
      · rcases hb with rfl | rfl
        · exact .inr (.inl ⟨_, _, r1.dp, r2.dp, f1, f2, hq _ H (same_refl H) (.bl _)⟩)
        · exact .inr (.inr (.inl ⟨_, _, r1.dp, r2.dp, f1, shaped_tup f2, hq _ H (same_refl H) (.bl _)⟩))
  cases b with
  | lst ds =>
    obtain ⟨l, vs, ey, h1, h2⟩ := r2.lst_inv
    exact seq ey (.inl h1) h2 (by cases a <;> exact e) (.inl rfl)
  | tup ds =>
    obtain ⟨l, vs, ey, h1, h2⟩ := r2.tup_inv
    exact seq ey (.inr h1.sq) h2 (by cases a <;> exact e) (.inr rfl)
  | str j =>
    cases a <;> first | (cases e; done) | skip
    cases e
    exact .inr (.inr (.inr ⟨_, _, r1.str_inv, r2.str_inv, hq _ H (same_refl H) (.bl _)⟩))
  | _ => cases a <;> cases e
def permL {α : Type} (idx : List Nat) (ws : List α) : List α := idx.filterMap (ws[·]?)
theorem permL_vals {zs : List V} {ws : List Value} (r : Vals zs ws) : ∀ idx : List Nat, Vals (permL idx zs) (permL idx ws)
  | [] => .nil
  | i :: idx => by
    unfold permL
    rw [List.filterMap_cons, List.filterMap_cons]
    cases h : zs[i]? with
    | none =>
      have : ws[i]? = none := by
        rw [List.getElem?_eq_none_iff] at h ⊢
        rw [← r.length]
        exact h
      rw [this]
      exact permL_vals r idx
    | some v =>
      obtain ⟨u, hu, ru⟩ := r.get h
      rw [hu]
      exact .cons ru (permL_vals r idx)
theorem permL_reps {O : Addr → Prop} {H : Hp} {zs : List V} {ds : List D} (r : Reps K O H zs ds) : ∀ idx : List Nat, Reps K O H (permL idx zs) (permL idx ds)
  | [] => .nil
  | i :: idx => by
    unfold permL
    rw [List.filterMap_cons, List.filterMap_cons]
    cases h : ds[i]? with
    | none =>
      have : zs[i]? = none := by
        rw [List.getElem?_eq_none_iff] at h ⊢
        rw [r.length]
        exact h
      rw [this]
      exact permL_reps r idx
    | some d =>
      obtain ⟨v, hv, rv⟩ := r.at_ h
      rw [hv]
      exact .cons rv (permL_reps r idx)
structure CalK (P : Program) (w : World) (K : PySem.W.Frag) (mg : Str → Option Value) (base : Heap) (k : Nat) (x : Str) (ks : List Str) (idx : List Nat) (F : FS) : Prop where
  ex : ∃ (f : Addr) (fd : FuncData) (ps : List Str), mg x = some (.ref f) ∧ PySem.W.keepIn K (.ref f) = true ∧ (∀ (s : Shared) (ws : List Value), ws.length = ks.length → BindsTo s fd ⟨[], ks.zip ws⟩ (ps.zip (permL idx ws))) ∧ FnG P w K mg base CX0 k f fd ps (spF K mg F)
theorem CalK.mono {P : Program} {w : World} {K : PySem.W.Frag} {mg : Str → Option Value} {base : Heap} {j k : Nat} {x : Str} {ks : List Str} {idx : List Nat} {F : FS} (C : CalK P w K mg base j x ks idx F) (h : j ≤ k) : CalK P w K mg base k x ks idx F := by
  obtain ⟨f, fd, ps, h1, h2, h3, h5⟩ := C.ex
  exact ⟨f, fd, ps, h1, h2, h3, h5.mono h⟩
theorem FunD.bindsKw {x qual : Str} {params : Arguments} {body : List Stmt} {scope : Scope} {kws : List (Str × V)} {f : Addr} {fd : FuncData} {ps ks : List Str} {idx : List Nat} (F : FunD K x qual params body scope [] kws f fd)
    (h : ∀ (kV doc pm : Value) (an : Option Addr) (cdv ct : Value) (ws : List Value), ws.length = ks.length → bindArgs (PySem.W.fnOf x qual params body scope .none kV doc pm an cdv ct) ⟨[], ks.zip ws⟩ = pure (ps.zip (permL idx ws))) (s : Shared) (ws : List Value) (hl : ws.length = ks.length) : BindsTo s fd ⟨[], ks.zip ws⟩ (ps.zip (permL idx ws)) := by
  obtain ⟨oc, od, dV, kV, doc, pm, an, cdv, ct, osl, rfl, lk, hcd, hD, hK⟩ := F.ex
  rcases hD with ⟨_, rfl⟩ | ⟨e, _⟩
  · exact .of_eq (h kV doc pm an cdv ct ws hl)
  · exact absurd rfl e
structure KV (X : Cx) (E : XK) (p : Bool) (kws : List Keyword) (f : AS) : Prop where
  ex : ∃ t, PK X kws t ∧ ∀ (O W : Addr → Prop) (σ : St) (H : Hp) (ρ : List B) (Q : List V → Hp → Prop), StR X.K O W σ H ρ →
    Wr (f ρ) (fun r => ∀ vs H', Post p X.K O W σ H H' ρ r.2 → Reps X.K O H' vs r.1 → Q vs H') (EX X E O W H) → t σ H Q
theorem kv_nil : KV X E true [] aNil := ⟨_, pk_nil, fun O W σ H ρ Q s h => h [] H (Post.refl s) .nil⟩
theorem kv_cons {nm : Option Str} {e : Expr} {kpos : Pos} {kws : List Keyword} {fe : ES} {ar : AS} (ha : EV X E p false e fe) (hr : KV X E q kws ar) : KV X E (p && q) (⟨nm, e, kpos⟩ :: kws) (aCons fe ar) := by
  obtain ⟨ta, pa, ra⟩ := ha.ex
  obtain ⟨tb, pb, rb⟩ := hr.ex
  refine ⟨_, pk_cons pa pb, fun O W σ H ρ Q s h => ?_⟩
  refine ra O W σ H ρ _ s (h.bind.mono (fun x hx v H1 p1 r => ?_) fun _ _ z => z)
  refine rb O W σ H1 x.2 _ p1.st (hx.bind.mono (fun y hy vs H2 p2 r2 => ?_) fun _ _ z => z.on p1.ext)
  exact hy (v :: vs) H2 (p1.trans p2) (.cons (r.strict.ext p2.ext p2.st.sub) r2)
def eCallK (F : FS) (idx : List Nat) (ar : AS) : ES := fun ρ => (ar ρ).bind fun x => (noX (F ((permL idx x.1).map .va))).bind fun y => .ok (y.1, x.2)
theorem ev_callK {k : Nat} {x : Str} {ks : List Str} {idx : List Nat} {F : FS} {kws : List Keyword} {ar : AS} {pp pos : Pos} (C : CalK X.prog X.w X.K X.mg X.base k x ks idx F) (hr : Room k X.A) (hgd : X.A.guards = some []) (ha : KV X E p kws ar) (hlen : ∀ ρ r, ar ρ = .ok r → r.1.length = ks.length) (hg : Gl X x := by rfl) (hdb : (x == ("__debug__" : Str)) = false := by decide)
    (hall : (backToKw pos (keywordEach kws X.env)).all (·.1.isSome) = true := by rfl) (hks : (backToKw pos (keywordEach kws X.env)).filterMap (·.1) = ks := by rfl)
    (hpl : ((backTo pos (starEach [] X.env)).any (·.1) || (backToKw pos (keywordEach kws X.env)).any (·.1.isNone)) = false := by rfl) : EV X E p w (.Call (.Name x pp) [] kws pos) (eCallK F idx ar) := by
  obtain ⟨f, fd, ps, h1, h2, h3, h5⟩ := C.ex
  obtain ⟨t, pt, rt⟩ := ha.ex
  let tK : TE := fun σ H Q => t σ H fun zs H2 => zs.length = ks.length ∧ spF X.K X.mg F (permL idx zs) H2 Q E0
  have pe : PE X (.Call (.Name x pp) [] kws pos) tK := by
    refine ⟨fun pins s σ H Q I h => ?_⟩
    refine wpAny_Call_Name_kw (ld_glob I hg h1 ?_ hdb)
    refine PySem.W.callWith_KW0 (h₀ := X.base) I.ok.mod.kin h2 hall ?_ hpl
    refine thn (pt.run pos pins s σ H _ I h) fun ws s2 ⟨zs, H2, I2, rz, l2, q2⟩ => ⟨I2.kIn, ?_⟩
    rw [hks]
    have r2 := permL_vals rz idx
    refine wpAny_call (codeAny_mono (h5.run X.A X.stack s2 H2 ⟨[], ks.zip ws⟩ (permL idx ws) (permL idx zs) Q E0 hr hgd I2.env0 (h3 s2 ws (rz.length.symm.trans l2)) r2 q2) fun r s' hq => ?_)
    cases r with
    | error e => exact pass0 pins σ H2 s2 e s' I2 hq
    | ok fl =>
      cases fl with
      | ret u => exact I2.after hq
      | next => exact False.elim hq
      | brk => exact False.elim hq
      | cont => exact False.elim hq
  refine ⟨tK, pe, fun O W σ H ρ Q s h => ?_⟩
  have hl : ∀ r, ar ρ = .ok r → r.1.length = ks.length := hlen ρ
  have h : Wr ((ar ρ).bind fun x => (noX (F ((permL idx x.1).map .va))).bind fun y => .ok (y.1, x.2)) _ _ := h
  cases er : ar ρ with
  | bad => rw [er] at h; exact h.elim
  | exc c d =>
    rw [er] at h
    exact rt O W σ H ρ _ s (by rw [er]; exact h)
  | ok x =>
    rw [er] at h
    refine rt O W σ H ρ _ s (by
      rw [er]
      intro vs H1 po rr
      refine ⟨by rw [rr.length]; exact hl x er, ?_⟩
      have rp := permL_reps rr idx
      refine ⟨O, fun _ => False, (permL idx x.1).map .va, strArgs rp po.st.al, allVa _, fun _ z => z.elim, (Wr.noX (Wr.bind h)).mono (fun y hy v H' s2 e2 r2 _ => ?_) fun _ _ z => z⟩
      have sm : Same H1 H' := fun b o h => e2 b o (fun z => z) h
      exact hy v H' (po.more sm) (.inl r2))
theorem len_aNil : ∀ ρ r, aNil ρ = .ok r → r.1.length = 0 := fun ρ r h => by cases h; rfl
theorem len_aCons {f : ES} {ar : AS} {n : Nat} (h : ∀ ρ r, ar ρ = .ok r → r.1.length = n) : ∀ ρ r, aCons f ar ρ = .ok r → r.1.length = n + 1 := fun ρ r e => by
  unfold aCons at e
  cases e1 : f ρ with
  | bad => rw [e1] at e; cases e
  | exc c d => rw [e1] at e; cases e
  | ok x =>
    rw [e1, Rs.ok_bind] at e
    cases e2 : ar x.2 with
    | bad => rw [e2] at e; cases e
    | exc c d => rw [e2] at e; cases e
    | ok y =>
      rw [e2] at e
      cases e
      simp [h _ _ e2]
def dRev : D → Option D
  | .lst ds => some (.lst ds.reverse)
  | _ => none
theorem ev_revL {e : Expr} {fe : ES} {k : Nat} {p1 p2 p3 pos : Pos} (ha : EV X E p w1 e fe) : EV X E p w (.Subscript e (.Slice none none (some (.UnaryOp .USub (.Constant (.int 1) k p1) p2)) p3) pos) (eUn dRev fe) := by
  obtain ⟨t, pt, rt⟩ := ha.ex
  refine ⟨_, pe_revL pt, fun O W σ H ρ Q s h => ?_⟩
  refine rt O W σ H ρ _ s (h.bind.mono (fun x hx v H1 po r => ?_) fun _ _ z => z)
  obtain ⟨z, ez, hz⟩ := hx.bind.ofO
  obtain ⟨d, ρ1⟩ := x
  cases d with
  | lst ds =>
    cases ez
    obtain ⟨a, vs, rfl, h1, h2⟩ := r.lst_inv
    exact ⟨a, vs, rfl, h1, fun q hq => hz _ _ (po.more (same_new hq)) (.inl (Rep.newL po.st.al hq h2.reverse))⟩
  | _ => cases ez
end
end RT
namespace RT
open PySem PySem.Spec PySem.Calls PyProof.Rows L2
section
variable {prog : Program} {w : World} {A : Around} {E : Value → Shared → Prop} {s : Shared} {l : Addr} {xs : Array (Int × Tok)} {its : List Value} {ns : List Int}
theorem iter_intTup {Q : Value → Shared → Prop} (hl : s.heap.IsTuple l (intItems xs))
    (h : ∀ s₂ : Shared, s₂ = { s with heap := s.heap.push { cls := .type "tuple_iterator", data := .fields #[.ref l, .int 0 0] } } →
      (s₂.heap.IsTupleIter s.heap.objs.size l 0 ∧ s₂.heap.IsTuple l (intItems xs)) → (∀ b ∈ [s.heap.objs.size, l], b < s₂.heap.objs.size) → l ≠ s.heap.objs.size → Q (.ref s.heap.objs.size) s₂) :
    wpAny (model prog w) A (pyIter (.ref l)) Q E s := by
  have hlt : l < s.heap.objs.size := by obtain ⟨_, e, _⟩ := hl; exact Heap.lt_size e
  refine wpAny_pyIter_tuple hl (h _ rfl ⟨⟨_, Heap.get?_push_size _ rfl, rfl, rfl⟩, hl.push _⟩ (fun b hb => ?_) (Nat.ne_of_lt hlt))
  show b < (s.heap.push _).objs.size
  rw [Heap.size_push]
  rcases List.mem_cons.mp hb with rfl | hb
  · exact Nat.lt_succ_self _
  · rcases List.mem_cons.mp hb with rfl | hb
    · exact Nat.lt_succ_of_lt hlt
    · cases hb
theorem old_keptT {h' : Heap} (hk : ∀ b o, b ∉ [s.heap.objs.size] → (s.heap.push { cls := .type "tuple_iterator", data := .fields #[.ref l, .int 0 0] }).get? b = some o → h'.get? b = some o) :
    ∀ b o, s.heap.get? b = some o → h'.get? b = some o := fun b o e => by
  refine hk b o (fun hm => ?_) (Heap.get?_push_of_some _ e)
  rcases List.mem_cons.mp hm with e1 | hm
  · exact absurd (e1 ▸ Heap.lt_size e) (Nat.lt_irrefl _)
  · cases hm
theorem max_intTup {Q : Value → Shared → Prop} (hh : A.handled = none) (hl : s.heap.IsTuple l (intItems xs)) (hne : 0 < xs.size)
    (h : ∀ v h' tk, (intItems xs)[argBest (fun i j => decide (numAt xs i > numAt xs j)) (xs.size - 1)]? = some v → (∀ b o, s.heap.get? b = some o → h'.get? b = some o) → Q v { s with heap := h', toks := tk }) :
    wpAny (model prog w) A (call (.builtin "max") [.ref l]) Q E s := by
  refine call_max_walk (iter_intTup hl fun s₂ e st hfp hlI => ?_)
  subst e
  refine ⟨_, _, _, _, _, _, _, rfl, Walks.tuple (A := A.in1) hh _ l hlI (intItems xs), st, hfp, by simpa [intItems] using hne, CmpOf.ints_gt (numAt xs) (fun _ _ => intItems_at), fun v h' tk hP hk => ?_⟩
  exact h v h' tk (by simpa [intItems] using hP) (old_keptT hk)
theorem min_intTup {Q : Value → Shared → Prop} (hh : A.handled = none) (hl : s.heap.IsTuple l (intItems xs)) (hne : 0 < xs.size)
    (h : ∀ v h' tk, (intItems xs)[argBest (fun i j => decide (numAt xs i < numAt xs j)) (xs.size - 1)]? = some v → (∀ b o, s.heap.get? b = some o → h'.get? b = some o) → Q v { s with heap := h', toks := tk }) :
    wpAny (model prog w) A (call (.builtin "min") [.ref l]) Q E s := by
  refine call_min_walk (iter_intTup hl fun s₂ e st hfp hlI => ?_)
  subst e
  refine ⟨_, _, _, _, _, _, _, rfl, Walks.tuple (A := A.in1) hh _ l hlI (intItems xs), st, hfp, by simpa [intItems] using hne, CmpOf.ints_lt (numAt xs) (fun _ _ => intItems_at), fun v h' tk hP hk => ?_⟩
  exact h v h' tk (by simpa [intItems] using hP) (old_keptT hk)
theorem sum_rawT {Q : Value → Shared → Prop} (hh : A.handled = none) (hl : s.heap.IsTuple l its.toArray) (hi : IntsAre its ns)
    (h : ∀ h' tk t', (∀ b o, s.heap.get? b = some o → h'.get? b = some o) → Q (.int ns.sum t') { s with heap := h', toks := tk }) : wpAny (model prog w) A (call (.builtin "sum") [.ref l]) Q E s := by
  obtain ⟨xs, e⟩ := hi.allInts.items
  have hn : numsOf (intItems xs).toList = ns := by rw [← e]; exact hi.numsOf
  rw [nums_intItems] at hn
  rw [e] at hl
  refine PySem.W.ktm_sumG hh hl fun h' tk t' hk => ?_
  have := h h' tk t' hk
  rw [preSum_eq, List.take_of_length_le (by simp), hn]; exact this
theorem max_rawT {Q : Value → Shared → Prop} (hh : A.handled = none) (hl : s.heap.IsTuple l its.toArray) (hi : IntsAre its ns) (hne : 0 < ns.length)
    (h : ∀ h' tk M t', (∀ b o, s.heap.get? b = some o → h'.get? b = some o) → M ∈ ns → (∀ a, a ∈ ns → a ≤ M) → Q (.int M t') { s with heap := h', toks := tk }) : wpAny (model prog w) A (call (.builtin "max") [.ref l]) Q E s := by
  obtain ⟨xs, e⟩ := hi.allInts.items
  have hn : numsOf (intItems xs).toList = ns := by rw [← e]; exact hi.numsOf
  rw [nums_intItems] at hn
  subst hn
  rw [e] at hl
  have hsz : 0 < xs.size := by simpa using hne
  refine max_intTup hh hl hsz fun v h' tk hv hk => ?_
  obtain ⟨t, rfl⟩ := intItems_at hv
  obtain ⟨h1, h2⟩ := argBest_gt (numAt xs) (xs.size - 1)
  refine h h' tk _ t hk ?_ fun a ha => ?_
  · rw [numAt_eq]; exact PySem.getD_mem (by rw [List.length_map, Array.length_toList]; omega)
  · obtain ⟨j, hj, rfl⟩ := mem_getD ha
    rw [List.length_map, Array.length_toList] at hj
    rw [← numAt_eq]; exact h2 j (by omega)
theorem min_rawT {Q : Value → Shared → Prop} (hh : A.handled = none) (hl : s.heap.IsTuple l its.toArray) (hi : IntsAre its ns) (hne : 0 < ns.length)
    (h : ∀ h' tk M t', (∀ b o, s.heap.get? b = some o → h'.get? b = some o) → M ∈ ns → (∀ a, a ∈ ns → M ≤ a) → Q (.int M t') { s with heap := h', toks := tk }) : wpAny (model prog w) A (call (.builtin "min") [.ref l]) Q E s := by
  obtain ⟨xs, e⟩ := hi.allInts.items
  have hn : numsOf (intItems xs).toList = ns := by rw [← e]; exact hi.numsOf
  rw [nums_intItems] at hn
  subst hn
  rw [e] at hl
  have hsz : 0 < xs.size := by simpa using hne
  refine min_intTup hh hl hsz fun v h' tk hv hk => ?_
  obtain ⟨t, rfl⟩ := intItems_at hv
  obtain ⟨h1, h2⟩ := argBest_lt (numAt xs) (xs.size - 1)
  refine h h' tk _ t hk ?_ fun a ha => ?_
  · rw [numAt_eq]; exact PySem.getD_mem (by rw [List.length_map, Array.length_toList]; omega)
  · obtain ⟨j, hj, rfl⟩ := mem_getD ha
    rw [List.length_map, Array.length_toList] at hj
    rw [← numAt_eq]; exact h2 j (by omega)
end
section
variable {X : Cx}
def rSumT (K : PySem.W.Frag) : List V → Hp → VK → Prop := fun vs H Q => ∃ (a : Addr) (ns : List Int), vs = [V.ref a] ∧ SqT K H a (ns.map V.int) ∧ Q (.int ns.sum) H
def rMaxT (K : PySem.W.Frag) : List V → Hp → VK → Prop := fun vs H Q => ∃ (a : Addr) (ns : List Int), vs = [V.ref a] ∧ SqT K H a (ns.map V.int) ∧ 0 < ns.length ∧ ∀ m, m ∈ ns → (∀ y, y ∈ ns → y ≤ m) → Q (.int m) H
def rMinT (K : PySem.W.Frag) : List V → Hp → VK → Prop := fun vs H Q => ∃ (a : Addr) (ns : List Int), vs = [V.ref a] ∧ SqT K H a (ns.map V.int) ∧ 0 < ns.length ∧ ∀ m, m ∈ ns → (∀ y, y ∈ ns → m ≤ y) → Q (.int m) H
theorem cr_sumT (hc : X.calm = true) : CallR X (.builtin "sum") (rSumT X.K) := by
  intro pins s σ H vs us Q I r h
  obtain ⟨a, ns, rfl, hs, q⟩ := h
  obtain ⟨its, rv, hl, _⟩ := I.tuple hs
  rw [Vals.ref1 r]
  exact sum_rawT (I.ok.hd hc) hl rv.ints fun h' tk t' hk => ⟨.int _, H, I.kept hk, ⟨_, rfl⟩, q⟩
theorem cr_maxT (hc : X.calm = true) : CallR X (.builtin "max") (rMaxT X.K) := by
  intro pins s σ H vs us Q I r h
  obtain ⟨a, ns, rfl, hs, hne, q⟩ := h
  obtain ⟨its, rv, hl, _⟩ := I.tuple hs
  rw [Vals.ref1 r]
  exact max_rawT (I.ok.hd hc) hl rv.ints hne fun h' tk m t' hk h1 h2 => ⟨.int _, H, I.kept hk, ⟨_, rfl⟩, q m h1 h2⟩
theorem cr_minT (hc : X.calm = true) : CallR X (.builtin "min") (rMinT X.K) := by
  intro pins s σ H vs us Q I r h
  obtain ⟨a, ns, rfl, hs, hne, q⟩ := h
  obtain ⟨its, rv, hl, _⟩ := I.tuple hs
  rw [Vals.ref1 r]
  exact min_rawT (I.ok.hd hc) hl rv.ints hne fun h' tk m t' hk h1 h2 => ⟨.int _, H, I.kept hk, ⟨_, rfl⟩, q m h1 h2⟩
theorem cr_sumA (hc : X.calm = true) : CallR X (.builtin "sum") (fun xs H Q => rSum X.K xs H Q ∨ rSumT X.K xs H Q) := (cr_sum hc).or (cr_sumT hc)
theorem cr_maxB (hc : X.calm = true) : CallR X (.builtin "max") (fun xs H Q => rMaxA X.K xs H Q ∨ rMaxT X.K xs H Q) := (cr_maxA hc).or (cr_maxT hc)
theorem cr_minB (hc : X.calm = true) : CallR X (.builtin "min") (fun xs H Q => rMinA X.K xs H Q ∨ rMinT X.K xs H Q) := (cr_minA hc).or (cr_minT hc)
end
section
variable {K : PySem.W.Frag} {w : Bool}
def dSumA : List D → Option D
  | [.tup ds] => (intsD ds).map fun bs => .int bs.sum
  | xs => dSum xs
def dMaxB : List D → Option D
  | [.tup ds] => ((intsD ds).bind maxL).map .int
  | xs => dMax xs
def dMinB : List D → Option D
  | [.tup ds] => ((intsD ds).bind minL).map .int
  | xs => dMin xs
theorem cd_sumA : Cd K w (fun xs H Q => rSum K xs H Q ∨ rSumT K xs H Q) dSumA := by
  intro O H xs as c Q al r e hq
  unfold dSumA at e
  split at e
  · rename_i ds
    cases q : intsD ds with
    | none => rw [q] at e; cases e
    | some bs =>
      rw [q] at e
      cases e
      obtain ⟨x, rfl, rr⟩ := one_of r
      obtain ⟨a, vs, rfl, h1, h2⟩ := rr.tup_inv
      have h3 := h1.sq
      rw [ints_reps h2 q] at h3
      exact .inr ⟨a, bs, rfl, h3, hq _ H (same_refl H) (.int _)⟩
  · exact .inl (cd_sum O H _ _ _ Q al r e hq)
theorem cd_maxB : Cd K w (fun xs H Q => rMaxA K xs H Q ∨ rMaxT K xs H Q) dMaxB := by
  intro O H xs as c Q al r e hq
  unfold dMaxB at e
  split at e
  · rename_i ds
    cases q : intsD ds with
    | none => rw [q] at e; cases e
    | some bs =>
      rw [q] at e
      obtain ⟨x, rfl, rr⟩ := one_of r
      obtain ⟨a, vs, rfl, h1, h2⟩ := rr.tup_inv
      have h3 := h1.sq
      rw [ints_reps h2 q] at h3
      cases bs with
      | nil => cases e
      | cons n ns =>
        refine .inr ⟨a, n :: ns, rfl, h3, by simp, fun m hm hb => ?_⟩
        have := maxgo ns n m (fun y hy => hb y (List.mem_cons_of_mem _ hy)) (hb n List.mem_cons_self) (List.mem_cons.mp hm)
        cases e
        rw [← this]
        exact hq _ H (same_refl H) (.int _)
  · exact .inl (cd_max O H _ _ _ Q al r e hq)
theorem cd_minB : Cd K w (fun xs H Q => rMinA K xs H Q ∨ rMinT K xs H Q) dMinB := by
  intro O H xs as c Q al r e hq
  unfold dMinB at e
  split at e
  · rename_i ds
    cases q : intsD ds with
    | none => rw [q] at e; cases e
    | some bs =>
      rw [q] at e
      obtain ⟨x, rfl, rr⟩ := one_of r
      obtain ⟨a, vs, rfl, h1, h2⟩ := rr.tup_inv
      have h3 := h1.sq
      rw [ints_reps h2 q] at h3
      cases bs with
      | nil => cases e
      | cons n ns =>
        refine .inr ⟨a, n :: ns, rfl, h3, by simp, fun m hm hb => ?_⟩
        have := mingo ns n m (fun y hy => hb y (List.mem_cons_of_mem _ hy)) (hb n List.mem_cons_self) (List.mem_cons.mp hm)
        cases e
        rw [← this]
        exact hq _ H (same_refl H) (.int _)
  · exact .inl (cd_min O H _ _ _ Q al r e hq)
end
end RT
namespace RT
open PySem PySem.Spec PySem.Calls PyProof.Rows L2
section
variable {prog : Program} {w : World} {A : Around} {E : Value → Shared → Prop} {s : Shared}
theorem collect_tup {l : Addr} {vs : List Value} {Q : List Value → Shared → Prop} (hl : s.heap.IsTuple l vs.toArray)
    (h : Q vs { s with heap := (s.heap.push (seqObj "list" #[] 0)).update s.heap.objs.size (Obj.mapSeq (· ++ vs.toArray)) }) (hsz : vs.length ≤ sizeLine) :
    wpAny (model prog w) A (collect (.ref l)) Q E s := by
  obtain ⟨o, ho, hc, n, hd⟩ := id hl
  unfold collect
  refine wpAny_bind (wpAny_runValue (codeAny_builtin entry_proto_collect' ?_))
  show wpAny _ _ (do again (.builtin "list.__iadd__" ⟨[← newList [], .ref l], []⟩)) _ _ s
  refine wpAny_bind (wpAny_newList (wpAny_pure ⟨Code.quiet_builtin _ (by decide +kernel), codeAny_builtin entry_list_iadd' ?_⟩))
  show wpAny _ _ (Builtin.List.listExtendWith (.ref s.heap.objs.size) (.ref l) (.ref s.heap.objs.size)) _ _ { s with heap := s.heap.push (seqObj "list" #[] 0) }
  unfold Builtin.List.listExtendWith
  have ho' : (s.heap.push (seqObj "list" #[] 0)).get? l = some o := Heap.get?_push_of_some _ ho
  refine wpAny_bind (wpAny_typeOf (T := "tuple") ⟨o, ho', hc⟩ ?_)
  have ht : (Value.type "tuple" == Value.type "tuple") = true := by rfl
  rw [if_pos (by rw [ht]; simp)]
  refine wpAny_bind (listItems_at ho' hd ?_)
  refine wpAny_bind (listItems_at (xs := #[]) (n := 0) (Heap.get?_push_size _ rfl) rfl ?_)
  rw [if_neg (by simp)]
  refine wpAny_bind (listUpdate_at (xs := #[]) (n := 0) (Heap.get?_push_size _ rfl) rfl ?_ (Nat.zero_le _) (by show (#[] ++ vs.toArray).size ≤ sizeLine + 1; simp only [Array.size_append, List.size_toArray, List.length_nil]; omega))
  refine wpAny_pure ?_
  show wpAny (model prog w) A (do
      let o ← load s.heap.objs.size
      match o.data with
      | .seq xs _ => pure xs.toList
      | _ => unsupported "internal:collect") Q E { s with heap := (s.heap.push (seqObj "list" #[] 0)).update s.heap.objs.size (Obj.mapSeq (· ++ vs.toArray)) }
  refine wpAny_bind (wpAny_load (get?_update_seq (Heap.get?_push_size _ rfl) _) ?_)
  show wpAny _ _ (pure ((#[] : Array Value) ++ vs.toArray).toList) Q E _
  rw [show ((#[] : Array Value) ++ vs.toArray).toList = vs by simp]
  exact wpAny_pure h
theorem sorted_intsT {l : Addr} {vs : List Value} {ns : List Int} {Q : Value → Shared → Prop} (hl : s.heap.IsTuple l vs.toArray) (hI : IntsAre vs ns) (hL : vs.length ≤ sizeLine)
    (h : ∀ (out : Array Value) (ns' : List Int), IntsAre out.toList ns' → ns'.Perm ns → ns'.Pairwise (· ≤ ·) → Q (.ref (s.heap.objs.size + 1)) { s with heap := sortedAll s.heap vs out }) :
    wpAny (model prog w) A (call (.builtin "sorted") [.ref l]) Q E s := by
  refine Calls.call_function_entry kind_sorted plain_sorted entry_sorted (args_sorted1 _) ?_
  unfold Builtin.«sorted»
  refine wpAny_bind (m := checkCount "sorted" 1 1 _) (wpAny_pure ?_)
  refine wpAny_bind (collect_tup hl ?_ hL)
  refine wpAny_bind (wpAny_newList ?_)
  have hsz : ((s.heap.push (seqObj "list" #[] 0)).update s.heap.objs.size (Obj.mapSeq (· ++ vs.toArray))).objs.size = s.heap.objs.size + 1 := by
    rw [Heap.size_update, size_push']
  have hoL : (((s.heap.push (seqObj "list" #[] 0)).update s.heap.objs.size (Obj.mapSeq (· ++ vs.toArray))).push (seqObj "list" vs.toArray 0)).get? (s.heap.objs.size + 1) = some (seqObj "list" vs.toArray 0) := by
    rw [← hsz]; exact Heap.get?_push_size _ rfl
  show wpAny _ _ _ _ _ { s with heap := ((s.heap.push (seqObj "list" #[] 0)).update s.heap.objs.size (Obj.mapSeq (· ++ vs.toArray))).push (seqObj "list" vs.toArray 0) }
  rw [hsz]
  refine wpAny_bind (wpAny_holding (wpAny_call_entry slot_list_sort ⟨_, hoL, rfl⟩ entry_list_sort (list_sort_treeAny hoL hI hL fun out ns' a1 a2 a3 => ⟨_, rfl, ?_⟩) (args_list_sort _)))
  exact wpAny_pure ⟨_, rfl, h out ns' a1 a2 a3⟩
end
section
variable {X : Cx}
def rSortedT (K : PySem.W.Frag) : List V → Hp → VK → Prop := fun vs H Q => ∃ (a : Addr) (ns : List Int), vs = [V.ref a] ∧ SqT K H a (ns.map V.int) ∧
  ∀ (ns' : List Int) (p : Addr), ns'.Perm ns → ns'.Pairwise (· ≤ ·) → H p = none → Q (.ref p) (upd H p (.lst (ns'.map V.int)))
theorem cr_sortedT : CallR X (.builtin "sorted") (rSortedT X.K) := by
  intro pins s σ H vs us Q I r h
  obtain ⟨a, ns, rfl, hs, q⟩ := h
  obtain ⟨its, rv, hl, hz⟩ := I.tuple hs
  rw [Vals.ref1 r]
  have hi := rv.ints
  refine sorted_intsT hl hi (by rw [← rv.length]; exact hz) fun out ns' h1 h2 h3 => ?_
  obtain ⟨ep, he'⟩ := PyProof.Rows.sortedAll_at s.heap its out
  have hlen : (ns'.map V.int).length ≤ sizeLine := by rw [List.length_map, h2.length_eq]; rw [List.length_map] at hz; exact hz
  exact ⟨.ref _, upd H (s.heap.objs.size + 1) (.lst (ns'.map V.int)), I.laid (t' := s.toks) (fun _ _ => PyProof.Rows.sortedAll_old) (Nat.le_succ _) ⟨hlen, out.toList, ep, vals_of_ints h1, he'⟩, rfl, q ns' _ h2 h3 (I.hok.fresh (Nat.le_succ _))⟩
theorem cr_sortedA : CallR X (.builtin "sorted") (fun xs H Q => rSortedI X.K xs H Q ∨ rSortedT X.K xs H Q) := cr_sortedI.or cr_sortedT
end
section
variable {K : PySem.W.Frag} {w : Bool}
def dSortedA : List D → Option (List D)
  | [.tup ds] => (intsD ds).map fun ns => (sortI ns).map D.int
  | xs => dSorted xs
theorem co_sortedA : Co K w (fun xs H Q => rSortedI K xs H Q ∨ rSortedT K xs H Q) dSortedA := by
  intro O H xs as c Q al r e hq
  unfold dSortedA at e
  split at e
  · rename_i ds
    cases q : intsD ds with
    | none => rw [q] at e; cases e
    | some bs =>
      rw [q] at e
      cases e
      obtain ⟨x, rfl, rr⟩ := one_of r
      obtain ⟨a, vs, rfl, h1, h2⟩ := rr.tup_inv
      have h3 := h1.sq
      rw [ints_reps h2 q] at h3
      refine .inr ⟨a, bs, rfl, h3, fun ns' p hp hs hl => ?_⟩
      rw [sorted_eq (hp.trans (sortI_perm bs).symm) hs (sortI_sorted bs)]
      exact hq _ _ hl (reps_ints _)
  · exact .inl (co_sorted O H _ _ _ Q al r e hq)
end
end RT
namespace RT
open PySem PySem.Spec PySem.Calls PyProof.Rows L2
theorem tuple_mul1 (l : Addr) (items : Array Value) (n : Nat) (dd : Option Addr) (sl : Array (Option Value)) (x : Int) (u : Tok) (c0 : (decide (x < -(2 ^ 63)) || decide (x ≥ 2 ^ 63)) = false) (c1 : (items.isEmpty || x == 1) = true) :
    Meets (Builtin.«tuple.__mul__» ⟨[.ref l, .int x u], []⟩) (fun _ R s => s.heap.get? l = some { cls := .type "tuple", dict := dd, data := .seq items n, slots := sl } ∧
      R (.ok (.ret (Value.ref l))) s) :=
  .of_wp fun prog w A R s h => by
    obtain ⟨hp, g, d, tk, os⟩ := s
    obtain ⟨hl, h⟩ := h
    have f1 := AutoSeq1.idx_int
    wp_walk using wpAny_loadPart' hl
    repeat (first
      | (refine wpAny_ite_false (decide_eq_false (by rw [c0]; exact Bool.false_ne_true)) ?_; wp_walk using wpAny_loadPart' hl)
      | (refine wpAny_ite_true (decide_eq_true (by rw [c1])) ?_; wp_walk using wpAny_loadPart' hl))
    exact ⟨_, rfl, h⟩
theorem tuple_mul0 (l : Addr) (items : Array Value) (n : Nat) (dd : Option Addr) (sl : Array (Option Value)) (x : Int) (u : Tok) (c0 : (decide (x < -(2 ^ 63)) || decide (x ≥ 2 ^ 63)) = false) (c1 : (items.isEmpty || x == 1) = false) (c2 : (decide (x ≤ 0) || items.isEmpty) = true) :
    Meets (Builtin.«tuple.__mul__» ⟨[.ref l, .int x u], []⟩) (fun _ R s => s.heap.get? l = some { cls := .type "tuple", dict := dd, data := .seq items n, slots := sl } ∧
      R (.ok (.ret (Value.ref s.heap.objs.size))) { s with heap := s.heap.push { cls := Value.type "tuple", data := Data.seq #[] }, toks := s.toks }) :=
  .of_wp fun prog w A R s h => by
    obtain ⟨hp, g, d, tk, os⟩ := s
    obtain ⟨hl, h⟩ := h
    have f1 := AutoSeq1.idx_int
    wp_walk using wpAny_loadPart' hl
    repeat (first
      | (refine wpAny_ite_false (decide_eq_false (by rw [c0]; exact Bool.false_ne_true)) ?_; wp_walk using wpAny_loadPart' hl)
      | (refine wpAny_ite_false (decide_eq_false (by rw [c1]; exact Bool.false_ne_true)) ?_; wp_walk using wpAny_loadPart' hl)
      | (refine wpAny_ite_true (decide_eq_true (by rw [c2])) ?_; wp_walk using wpAny_loadPart' hl))
    exact ⟨_, rfl, h⟩
def rRepT1 (K : PySem.W.Frag) : R2 := fun x y H Q => ∃ l k xs, x = .ref l ∧ y = .int k ∧ SqT K H l xs ∧ (xs = [] ∨ k = 1) ∧ -(2 ^ 63) ≤ k ∧ k < 2 ^ 63 ∧ Q (.ref l) H
def rRepT0 (K : PySem.W.Frag) : R2 := fun x y H Q => ∃ l k xs, x = .ref l ∧ y = .int k ∧ SqT K H l xs ∧ xs ≠ [] ∧ k ≤ 0 ∧ -(2 ^ 63) ≤ k ∧ ∀ p, H p = none → Q (.ref p) (upd H p (.tup []))
section
variable {X : Cx}
theorem op_repT1 : OpR X (binaryOp .Mult) (rRepT1 X.K) := by
  intro pins s σ H x y v u Q I rx ry h
  obtain ⟨l, k, xs, rfl, rfl, hT, h0, h1, h2, q⟩ := h
  cases rx
  obtain ⟨t, rfl⟩ := ry
  obtain ⟨its, r, ⟨⟨cls, dd, data, sl⟩, ho, hc, n, hd⟩, hs⟩ := I.tuple hT
  simp only at hc hd
  subst hc hd
  have hle : its.length = xs.length := r.length.symm
  have c0 : (decide (k < -(2 ^ 63)) || decide (k ≥ 2 ^ 63)) = false := by
    rw [decide_eq_false (by omega), decide_eq_false (by omega)] <;> rfl
  have c1 : (its.toArray.isEmpty || k == 1) = true := by
    rcases h0 with e | e
    · rw [e] at hle
      rw [List.eq_nil_of_length_eq_zero hle]
      rfl
    · subst e
      simp
  refine wpAny_binaryOp_repeat_ref (T := "tuple") (U := "int") (by decide) ⟨_, ho, rfl⟩ (fun s' => typeIs_int s' k t) noFill_tuple_mul F.fills_int_mul F.slot_int_rmul repeat_tuple F.slot_int_index.lookup
    (call_meets F.slot_int_rmul (typeIs_int s k t) F.entry_int_rmul (F.args_int_rmul_2 _ _) (int_rmul_tuple k t l its.toArray n dd sl)
      ⟨ho, rfl, ⟨_, ho, rfl⟩, call_meets F.slot_tuple_mul ⟨_, ho, rfl⟩ F.entry_tuple_mul (F.args_tuple_mul_2 _ _) (tuple_mul1 l its.toArray n dd sl k t c0 c1) ⟨ho, ?_⟩⟩)
  exact ⟨.ref l, H, I, rfl, q⟩
theorem op_repT0 : OpR X (binaryOp .Mult) (rRepT0 X.K) := by
  intro pins s σ H x y v u Q I rx ry h
  obtain ⟨l, k, xs, rfl, rfl, hT, hne, h0, h1, q⟩ := h
  cases rx
  obtain ⟨t, rfl⟩ := ry
  obtain ⟨its, r, ⟨⟨cls, dd, data, sl⟩, ho, hc, n, hd⟩, hs⟩ := I.tuple hT
  simp only at hc hd
  subst hc hd
  have hle : its.length = xs.length := r.length.symm
  have hn : its ≠ [] := fun e => hne (by
    rw [e] at hle
    exact List.eq_nil_of_length_eq_zero hle.symm)
  have hi : its.toArray.isEmpty = false := by
    cases its with
    | nil => exact absurd rfl hn
    | cons a b => rfl
  have c0 : (decide (k < -(2 ^ 63)) || decide (k ≥ 2 ^ 63)) = false := by
    rw [decide_eq_false (by omega), decide_eq_false (by omega)] <;> rfl
  have c1 : (its.toArray.isEmpty || k == 1) = false := by
    rw [hi, Bool.false_or]
    exact beq_eq_false_iff_ne.mpr (by omega)
  have c2 : (decide (k ≤ 0) || its.toArray.isEmpty) = true := by
    rw [decide_eq_true h0]
    rfl
  refine wpAny_binaryOp_repeat_ref (T := "tuple") (U := "int") (by decide) ⟨_, ho, rfl⟩ (fun s' => typeIs_int s' k t) noFill_tuple_mul F.fills_int_mul F.slot_int_rmul repeat_tuple F.slot_int_index.lookup
    (call_meets F.slot_int_rmul (typeIs_int s k t) F.entry_int_rmul (F.args_int_rmul_2 _ _) (int_rmul_tuple k t l its.toArray n dd sl)
      ⟨ho, rfl, ⟨_, ho, rfl⟩, call_meets F.slot_tuple_mul ⟨_, ho, rfl⟩ F.entry_tuple_mul (F.args_tuple_mul_2 _ _) (tuple_mul0 l its.toArray n dd sl k t c0 c1 c2) ⟨ho, ?_⟩⟩)
  refine ⟨.ref s.heap.objs.size, _, I.laid (t' := s.toks) (o := .tup []) (fun b ob q => Heap.get?_push_of_some _ q) (Nat.le_refl _) ?_, rfl, q _ (I.hok.fresh (Nat.le_refl _))⟩
  exact ⟨Nat.zero_le _, [], .nil, IsTup.new _ _⟩
end
end RT
namespace RT
open PySem PySem.Spec PySem.Calls PyProof.Rows L2
theorem int_rmul_listW (a : Int) (t : Tok) (l : Addr) (items : Array Value) (n : Nat) (sl : Array (Option Value)) :
    Meets (Builtin.«int.__rmul__» ⟨[.int a t, .ref l], []⟩) (fun _ R s => s.heap.get? l = some { cls := .type "list", dict := none, data := .seq items n, slots := sl } ∧ R (.ok (.ret Value.notImplemented)) s) :=
  .of_wp fun prog w A R s h => by obtain ⟨hp, g, d, tk, os⟩ := s; obtain ⟨hl, h⟩ := h; wp_walk using wpAny_loadPart' hl; exact ⟨_, rfl, h⟩
theorem list_mulW (l : Addr) (items : Array Value) (n : Nat) (sl : Array (Option Value)) (x : Int) (u : Tok) (hc0 : ¬(!Builtin.List.listFitsIndex x) = true) (hc1 : ¬items.size * x.toNat > (2 ^ 63 - 1) / 8) (hc2 : ¬Builtin.List.listTooLong (items.size * x.toNat) = true) :
    Meets (Builtin.«list.__mul__» ⟨[.ref l, .int x u], []⟩) (fun _ R s => s.heap.get? l = some { cls := .type "list", dict := none, data := .seq items n, slots := sl } ∧ R (.ok (.ret (Value.ref s.heap.objs.size))) { s with heap := s.heap.push { cls := Value.type "list", data := Data.seq (List.foldl (fun x1 x2 => x1 ++ x2) #[] (List.replicate (if items.isEmpty = true then 0 else x.toNat) items)) }, toks := s.toks }) :=
  .of_wp fun prog w A R s h => by
    obtain ⟨hp, g, d, tk, os⟩ := s; obtain ⟨hl, h⟩ := h
    have f1 := AutoSeq1.idx_int
    have hsz := AutoListH.joined_fits hc2
    wp_walk using wpAny_loadPart' hl; refine wpAny_ite_false (decide_eq_false (Nat.not_lt.mpr hsz)) ?_; wp_walk using wpAny_loadPart' hl; exact ⟨_, rfl, h⟩
def rRepL (K : PySem.W.Frag) : R2 := fun x y H Q => ∃ l k xs, x = .ref l ∧ y = .int k ∧ SqL K H l xs ∧ -(2 ^ 63) ≤ k ∧ k < 2 ^ 63 ∧ xs.length * k.toNat ≤ sizeLine ∧
  ∀ p, H p = none → Q (.ref p) (upd H p (.lst (List.replicate k.toNat xs).flatten))
section
variable {X : Cx}
theorem op_repL : OpR X (binaryOp .Mult) (rRepL X.K) := by
  intro pins s σ H x y v u Q I rx ry h
  obtain ⟨l, k, xs, rfl, rfl, hH, h1, h2, hz, q⟩ := h
  cases rx
  obtain ⟨t, rfl⟩ := ry
  obtain ⟨its, r, ⟨⟨cls, dd, data, sl⟩, n, e, hc, hdd, hd⟩, hl0⟩ := I.list hH
  simp only at hc hd hdd
  subst hc hd hdd
  have hl : xs.length = its.length := r.length
  have hlen : its.toArray.size * k.toNat ≤ sizeLine := by rw [List.size_toArray, ← hl]; exact hz
  have hcap : ¬ its.toArray.size * k.toNat > (2 ^ 63 - 1) / 8 := by
    have : (sizeLine : Nat) ≤ (2 ^ 63 - 1) / 8 := by decide
    omega
  have hfit : ¬ (!Builtin.List.listFitsIndex k) = true := by
    rw [fitsIndex_both h1 h2]
    exact Bool.false_ne_true
  have hlong : ¬ Builtin.List.listTooLong (its.toArray.size * k.toNat) = true := by
    rw [notLongL hlen]
    exact Bool.false_ne_true
  have hnew : List.foldl (fun x1 x2 => x1 ++ x2) #[] (List.replicate (if its.toArray.isEmpty = true then 0 else k.toNat) its.toArray) = (List.replicate k.toNat its).flatten.toArray := by
    rw [size_rep]
    cases its with
    | nil => simp
    | cons a r' => rw [if_neg (by simp)]
  refine wpAny_binaryOp_repeat_ref (T := "list") (U := "int") (by decide) ⟨_, e, rfl⟩ (fun s' => typeIs_int s' k t) noFill_list_mul F.fills_int_mul F.slot_int_rmul repeat_list F.slot_int_index.lookup
    (call_meets F.slot_int_rmul (typeIs_int s k t) F.entry_int_rmul (F.args_int_rmul_2 _ _) (int_rmul_listW k t l its.toArray n sl)
      ⟨e, rfl, ⟨_, e, rfl⟩, call_meets F.slot_list_mul ⟨_, e, rfl⟩ F.entry_list_mul (F.args_list_mul_2 _ _) (list_mulW l its.toArray n sl k t hfit hcap hlong) ⟨e, ?_⟩⟩)
  rw [hnew]
  exact ⟨.ref _, _, I.lnew (t' := s.toks) (r.rep k.toNat) (by rw [PyProof.Rows.lm_len_rep_flat, Nat.mul_comm]; exact hz), rfl, q _ I.fresh⟩
theorem op_mulA : OpR X (binaryOp .Mult) (fun x y H Q => rI CMulW (fun i j => .int (i * j)) x y H Q ∨ rRepL X.K x y H Q ∨ rRepT1 X.K x y H Q ∨ rRepT0 X.K x y H Q ∨ rRepT X.K x y H Q) :=
  op_mulW.or (op_repL.or (op_repT1.or (op_repT0.or op_repT)))
end
section
variable {K : PySem.W.Frag} {w1 w2 : Bool}
def dMulA (a b : D) : Option D := match a, b with
  | .lst xs, .int k => if -(2 ^ 63) ≤ k ∧ k < 2 ^ 63 ∧ xs.length * k.toNat ≤ sizeLine then some (.lst (List.replicate k.toNat xs).flatten) else none
  | .tup xs, .int k => if -(2 ^ 63) ≤ k ∧ k ≤ 1000 ∧ xs.length ≤ 1000 then some (.tup (List.replicate k.toNat xs).flatten) else none
  | a, b => dMul a b
theorem reps_rep {O : Addr → Prop} {H : Hp} {vs : List V} {ds : List D} (r : Reps K O H vs ds) : ∀ n : Nat, Reps K O H (List.replicate n vs).flatten (List.replicate n ds).flatten
  | 0 => .nil
  | n + 1 => by
    rw [List.replicate_succ, List.replicate_succ, List.flatten_cons, List.flatten_cons]
    exact r.append (reps_rep r n)
theorem od_mulA : Od K w1 w2 (fun x y H Q => rI CMulW (fun i j => .int (i * j)) x y H Q ∨ rRepL K x y H Q ∨ rRepT1 K x y H Q ∨ rRepT0 K x y H Q ∨ rRepT K x y H Q) dMulA := by
  intro O H x y a b c Q al r1 r2 e hq
  unfold dMulA at e
  split at e
  · rename_i xs k
    split at e
    · rename_i hc
      cases e
      rw [r2.int_inv]
      obtain ⟨l, vs, rfl, h1, h2⟩ := r1.lst_inv
      refine .inr (.inl ⟨l, k, vs, rfl, rfl, h1, hc.1, hc.2.1, by rw [h2.length]; exact hc.2.2, fun p hp => ?_⟩)
      exact hq _ _ (same_new hp) (Rep.newL al hp (reps_rep h2 k.toNat))
    · cases e
  · rename_i xs k
    split at e
    · rename_i hc
      cases e
      rw [r2.int_inv]
      obtain ⟨l, vs, rfl, h1, h2⟩ := r1.tup_inv
      have hlv : vs.length = xs.length := h2.length
      by_cases h0 : vs = [] ∨ k = 1
      · refine .inr (.inr (.inl ⟨l, k, vs, rfl, rfl, h1.sq, h0, hc.1, by omega, ?_⟩))
        have e : (List.replicate k.toNat xs).flatten = xs := by
          rcases h0 with e | e
          · subst e
            have : xs = [] := List.eq_nil_of_length_eq_zero hlv.symm
            rw [this]
            simp
          · subst e
            simp
        rw [e] at hq
        exact hq _ H (same_refl H) (.tup h1 h2)
      · have hne : vs ≠ [] := fun e => h0 (.inl e)
        have hk1 : k ≠ 1 := fun e => h0 (.inr e)
        by_cases hk : k ≤ 0
        · refine .inr (.inr (.inr (.inl ⟨l, k, vs, rfl, rfl, h1.sq, hne, hk, hc.1, fun p hp => ?_⟩)))
          have e : k.toNat = 0 := by omega
          rw [e] at hq
          exact hq _ _ (same_new hp) (Rep.newT al hp .nil)
        · refine .inr (.inr (.inr (.inr ⟨l, k, vs, rfl, rfl, h1.sq, hne, by omega, hc.2.1, by omega, fun p hp => ?_⟩)))
          exact hq _ _ (same_new hp) (Rep.newT al hp (reps_rep h2 k.toNat))
    · cases e
  · exact .inl (od_mul O H _ _ _ _ _ Q al r1 r2 e hq)
end
end RT
namespace RT
open PySem PySem.Spec PyProof.Rows L2
section
variable {X : Cx} {E : XK} {p q p3 p4 w w2 : Bool} {a b c d : Expr} {fa fb fc fd : ES} {pos : Pos} {ta tb tc td : TE}
def tChain3 (r r' r'' : R2) (ta tb tc td : TE) : TE := fun σ H Q => ta σ H fun x H1 => tb σ H1 fun y H2 => r x y H2 fun z H3 => ∃ k, z = .bl k ∧
  (if k = true then tc σ H3 fun w' H4 => r' y w' H4 fun z2 H5 => ∃ k2, z2 = .bl k2 ∧ (if k2 = true then td σ H5 fun u' H6 => r'' w' u' H6 Q else Q (.bl false) H5) else Q (.bl false) H3)
theorem pe_chain3 {op op' op'' : CmpOp} {r r' r'' : R2} (ho : OpR X (compareOp op) r) (ho' : OpR X (compareOp op') r') (ho'' : OpR X (compareOp op'') r'') (ha : PE X a ta) (hb : PE X b tb) (hc : PE X c tc) (hd : PE X d td)
    (hm : lastMarks [op, op', op''] [b, c, d] = false := by with_unfolding_all rfl) : PE X (.Compare a [op, op', op''] [b, c, d] pos) (tChain3 r r' r'' ta tb tc td) := by
  refine ⟨fun pins s σ H Q I h => ?_⟩
  refine Compare_chain (thn (ha.run pins s σ H _ I h) fun v s1 ⟨x, H1, I1, r1, q1⟩ => chain_link (thn (hb.run pins s1 σ H1 _ I1 q1) fun u s2 ⟨y, H2, I2, r2, q2⟩ =>
    thn (ho pins s2 σ H2 x y v u _ I2 r1 r2 q2) fun d s3 ⟨z, H3, I3, r3, k, e, q3⟩ => ?_)) hm
  subst e
  cases r3
  refine wpAny_truthy_bool ?_
  cases k with
  | false => exact ite_ff ⟨.bl false, H3, I3, rfl, q3⟩
  | true =>
    refine ite_tt (chain_link (thn (hc.run pins s3 σ H3 _ I3 q3) fun w' s4 ⟨z', H4, I4, r4, q4⟩ => thn (ho' pins s4 σ H4 y z' u w' _ I4 r2 r4 q4) fun d' s5 ⟨z2, H5, I5, r5, k2, e2, q5⟩ => ?_))
    subst e2
    cases r5
    refine wpAny_truthy_bool ?_
    cases k2 with
    | false => exact ite_ff ⟨.bl false, H5, I5, rfl, q5⟩
    | true => exact ite_tt (chain_last (thn (hd.run pins s5 σ H5 _ I5 q5) fun u' s6 ⟨z3, H6, I6, r6, q6⟩ => ho'' pins s6 σ H6 z' z3 w' u' Q I6 r4 r6 q6))
theorem pt_chain3 {op op' op'' : CmpOp} {r r' r'' : R2} (ho : OpR X (compareOp op) r) (ho' : OpR X (compareOp op') r') (ho'' : OpR X (compareOp op'') r'') (ha : PE X a ta) (hb : PE X b tb) (hc : PE X c tc) (hd : PE X d td)
    (hm : lastMarks [op, op', op''] [b, c, d] = false := by with_unfolding_all rfl) : PT X (.Compare a [op, op', op''] [b, c, d] pos) (tTest (tChain3 r r' r'' ta tb tc td)) := by
  refine ⟨fun pins s σ H Q I h => ?_⟩
  refine isTrue_chain (thn (ha.run pins s σ H _ I h) fun v s1 ⟨x, H1, I1, r1, q1⟩ => test_link (thn (hb.run pins s1 σ H1 _ I1 q1) fun u s2 ⟨y, H2, I2, r2, q2⟩ =>
    thn (ho pins s2 σ H2 x y v u _ I2 r1 r2 q2) fun d s3 ⟨z, H3, I3, r3, k, e, q3⟩ => ?_)) hm
  subst e
  cases r3
  refine wpAny_truthy_bool ?_
  cases k with
  | false =>
    obtain ⟨k', e', q'⟩ := q3
    cases e'
    exact ite_ff ⟨H3, I3, q'⟩
  | true =>
    refine ite_tt (test_link (thn (hc.run pins s3 σ H3 _ I3 q3) fun w' s4 ⟨z', H4, I4, r4, q4⟩ => thn (ho' pins s4 σ H4 y z' u w' _ I4 r2 r4 q4) fun d' s5 ⟨z2, H5, I5, r5, k2, e2, q5⟩ => ?_))
    subst e2
    cases r5
    refine wpAny_truthy_bool ?_
    cases k2 with
    | false =>
      obtain ⟨k', e', q'⟩ := q5
      cases e'
      exact ite_ff ⟨H5, I5, q'⟩
    | true =>
      refine ite_tt (test_last (thn (hd.run pins s5 σ H5 _ I5 q5) fun u' s6 ⟨z3, H6, I6, r6, q6⟩ => thn (ho'' pins s6 σ H6 z' z3 w' u' _ I6 r4 r6 q6) fun d'' s7 ⟨z4, H7, I7, r7, k3, e3, q7⟩ => ?_))
      subst e3
      cases r7
      exact wpAny_truthy_bool ⟨H7, I7, q7⟩
def eChain3 (f g h : D → D → Option D) (fa fb fc fd : ES) : ES := fun ρ => (fa ρ).bind fun x => (fb x.2).bind fun y => (ofO (f x.1 y.1)).bind fun z => match z with
  | .bl true => (fc y.2).bind fun u => (ofO (g y.1 u.1)).bind fun z => match z with
    | .bl true => (fd u.2).bind fun v => (ofO (h u.1 v.1)).bind fun z => match z with
      | .bl k => .ok (.bl k, v.2)
      | _ => .bad
    | .bl false => .ok (.bl false, u.2)
    | _ => .bad
  | .bl false => .ok (.bl false, y.2)
  | _ => .bad
theorem chain3_bl {f g h : D → D → Option D} {ρ : List B} {y : D × List B} (hy : eChain3 f g h fa fb fc fd ρ = .ok y) : ∃ k, y.1 = .bl k := by
  unfold eChain3 at hy
  cases e1 : fa ρ with
  | exc c x => rw [e1] at hy; cases hy
  | bad => rw [e1] at hy; cases hy
  | ok x =>
    rw [e1, Rs.ok_bind] at hy
    cases e2 : fb x.2 with
    | exc c x => rw [e2] at hy; cases hy
    | bad => rw [e2] at hy; cases hy
    | ok x2 =>
      rw [e2, Rs.ok_bind] at hy
      cases e3 : f x.1 x2.1 with
      | none => rw [e3] at hy; cases hy
      | some z =>
        rw [e3, ofO_some, Rs.ok_bind] at hy
        cases z with
        | bl k =>
          cases k with
          | false => cases hy; exact ⟨_, rfl⟩
          | true =>
            simp only at hy
            cases e4 : fc x2.2 with
            | exc c x => rw [e4] at hy; cases hy
            | bad => rw [e4] at hy; cases hy
            | ok u =>
              rw [e4, Rs.ok_bind] at hy
              cases e5 : g x2.1 u.1 with
              | none => rw [e5] at hy; cases hy
              | some z =>
                rw [e5, ofO_some, Rs.ok_bind] at hy
                cases z with
                | bl k =>
                  cases k with
                  | false => cases hy; exact ⟨_, rfl⟩
                  | true =>
                    simp only at hy
                    cases e6 : fd u.2 with
                    | exc c x => rw [e6] at hy; cases hy
                    | bad => rw [e6] at hy; cases hy
                    | ok v =>
                      rw [e6, Rs.ok_bind] at hy
                      cases e7 : h u.1 v.1 with
                      | none => rw [e7] at hy; cases hy
                      | some z =>
                        rw [e7, ofO_some, Rs.ok_bind] at hy
                        cases z with
                        | bl k => cases hy; exact ⟨_, rfl⟩
                        | _ => cases hy
                | _ => cases hy
        | _ => cases hy
theorem chain3_rd {r r' r'' : R2} {f g h : D → D → Option D} (hd : Od X.K false w2 r f) (hd' : Od X.K w2 false r' g) (hd'' : Od X.K false false r'' h)
    (ra : ∀ (O W : Addr → Prop) (σ : St) (H : Hp) (ρ : List B) (Q : VK), StR X.K O W σ H ρ → Wr (fa ρ) (fun r => ∀ v H', Post p X.K O W σ H H' ρ r.2 → RepW false X.K O H' v r.1 → Q v H') (EX X E O W H) → ta σ H Q)
    (rb : ∀ (O W : Addr → Prop) (σ : St) (H : Hp) (ρ : List B) (Q : VK), StR X.K O W σ H ρ → Wr (fb ρ) (fun r => ∀ v H', Post q X.K O W σ H H' ρ r.2 → RepW w2 X.K O H' v r.1 → Q v H') (EX X E O W H) → tb σ H Q)
    (rc : ∀ (O W : Addr → Prop) (σ : St) (H : Hp) (ρ : List B) (Q : VK), StR X.K O W σ H ρ → Wr (fc ρ) (fun r => ∀ v H', Post p3 X.K O W σ H H' ρ r.2 → RepW false X.K O H' v r.1 → Q v H') (EX X E O W H) → tc σ H Q)
    (rd : ∀ (O W : Addr → Prop) (σ : St) (H : Hp) (ρ : List B) (Q : VK), StR X.K O W σ H ρ → Wr (fd ρ) (fun r => ∀ v H', Post p4 X.K O W σ H H' ρ r.2 → RepW false X.K O H' v r.1 → Q v H') (EX X E O W H) → td σ H Q)
    (hw : (!w2 || p3) = true) {O W : Addr → Prop} {σ : St} {H : Hp} {ρ : List B} {Q : VK} (s : StR X.K O W σ H ρ)
    (hh : Wr (eChain3 f g h fa fb fc fd ρ) (fun r => ∀ H', Post (p && q && p3 && p4) X.K O W σ H H' ρ r.2 → ∃ k, r.1 = .bl k ∧ Q (.bl k) H') (EX X E O W H)) : tChain3 r r' r'' ta tb tc td σ H Q := by
  unfold eChain3 at hh
  refine bin2 ra rb (by rfl) s (hh.bind.mono (fun x hx => hx.bind.mono (fun y hy v u H' po r1 r2 => ?_) fun _ _ z => z) fun _ _ z => z)
  obtain ⟨z, ez, hz⟩ := hy.bind.ofO
  refine hd O H' v u _ _ z _ po.st.al r1 r2 ez fun v' H2 sm rr => ?_
  cases z with
  | bl k =>
    refine ⟨k, rr.bl_inv, ?_⟩
    have po2 := po.more sm
    cases k with
    | false =>
      refine iteF ?_
      have hz : ∀ H', Post (p && q && p3 && p4) X.K O W σ H H' ρ y.2 → ∃ k, D.bl false = .bl k ∧ Q (.bl k) H' := hz
      obtain ⟨k, e, hq⟩ := hz H2 (po2.weak fun e => (Bool.and_eq_true_iff.mp (Bool.and_eq_true_iff.mp e).1).1)
      cases e
      exact hq
    | true =>
      refine iteT ?_
      simp only at hz
      refine rc O W σ H2 y.2 _ po2.st (hz.bind.mono (fun m hm v3 H3 p3' r3 => ?_) fun _ _ z => z.on po2.ext)
      obtain ⟨z, ez, hz⟩ := hm.bind.ofO
      refine hd' O H3 u v3 _ _ z _ p3'.st.al (p3'.keepW hw (r2.same sm)) r3 ez fun v4 H4 sm4 rr4 => ?_
      cases z with
      | bl k2 =>
        refine ⟨k2, rr4.bl_inv, ?_⟩
        have po4 := (po2.trans p3').more sm4
        cases k2 with
        | false =>
          refine iteF ?_
          have hz : ∀ H', Post (p && q && p3 && p4) X.K O W σ H H' ρ m.2 → ∃ k, D.bl false = .bl k ∧ Q (.bl k) H' := hz
          obtain ⟨k, e, hq⟩ := hz H4 (po4.weak fun e => (Bool.and_eq_true_iff.mp e).1)
          cases e
          exact hq
        | true =>
          refine iteT ?_
          simp only at hz
          refine rd O W σ H4 m.2 _ po4.st (hz.bind.mono (fun n hn v5 H5 p5 r5 => ?_) fun _ _ z => z.on po4.ext)
          obtain ⟨z, ez, hz⟩ := hn.bind.ofO
          refine hd'' O H5 v3 v5 _ _ z _ p5.st.al (p5.keepW (by rfl) (r3.same sm4)) r5 ez fun v6 H6 sm6 rr6 => ?_
          cases z with
          | bl k =>
            obtain ⟨k', e, hq⟩ := hz H6 ((po4.trans p5).more sm6)
            cases e
            rw [rr6.bl_inv]
            exact hq
          | _ => exact hz.elim
      | _ => exact hz.elim
  | _ => exact hz.elim
theorem ev_chain3 {op op' op'' : CmpOp} {r r' r'' : R2} {f g h : D → D → Option D} (ho : OpR X (compareOp op) r) (hd : Od X.K false w2 r f) (ho' : OpR X (compareOp op') r') (hd' : Od X.K w2 false r' g) (ho'' : OpR X (compareOp op'') r'') (hd'' : Od X.K false false r'' h)
    (ha : EV X E p false a fa) (hb : EV X E q w2 b fb) (hc : EV X E p3 false c fc) (he : EV X E p4 false d fd) (hw : (!w2 || p3) = true := by rfl)
    (hm : lastMarks [op, op', op''] [b, c, d] = false := by with_unfolding_all rfl) : EV X E (p && q && p3 && p4) w (.Compare a [op, op', op''] [b, c, d] pos) (eChain3 f g h fa fb fc fd) := by
  obtain ⟨ta, pa, ra⟩ := ha.ex
  obtain ⟨tb, pb, rb⟩ := hb.ex
  obtain ⟨tc, pc, rc⟩ := hc.ex
  obtain ⟨td, pd, rd⟩ := he.ex
  refine ⟨_, pe_chain3 ho ho' ho'' pa pb pc pd hm, fun O W σ H ρ Q s hh => ?_⟩
  refine chain3_rd hd hd' hd'' ra rb rc rd hw s ?_
  cases e : eChain3 f g h fa fb fc fd ρ with
  | exc c x => rw [e] at hh; exact hh
  | bad => rw [e] at hh; exact hh
  | ok y =>
    rw [e] at hh
    intro H' po
    obtain ⟨k, hk⟩ := chain3_bl e
    exact ⟨k, hk, hh _ H' po (by rw [hk]; exact .inl (.bl k))⟩
theorem tv_chain3 {op op' op'' : CmpOp} {r r' r'' : R2} {f g h : D → D → Option D} (ho : OpR X (compareOp op) r) (hd : Od X.K false w2 r f) (ho' : OpR X (compareOp op') r') (hd' : Od X.K w2 false r' g) (ho'' : OpR X (compareOp op'') r'') (hd'' : Od X.K false false r'' h)
    (ha : EV X E p false a fa) (hb : EV X E q w2 b fb) (hc : EV X E p3 false c fc) (he : EV X E p4 false d fd) (hw : (!w2 || p3) = true := by rfl)
    (hm : lastMarks [op, op', op''] [b, c, d] = false := by with_unfolding_all rfl) : TV X E (p && q && p3 && p4) (.Compare a [op, op', op''] [b, c, d] pos) (bV (eChain3 f g h fa fb fc fd)) := by
  obtain ⟨ta, pa, ra⟩ := ha.ex
  obtain ⟨tb, pb, rb⟩ := hb.ex
  obtain ⟨tc, pc, rc⟩ := hc.ex
  obtain ⟨td, pd, rd⟩ := he.ex
  refine ⟨_, pt_chain3 ho ho' ho'' pa pb pc pd hm, fun O W σ H ρ Q s hh => ?_⟩
  refine chain3_rd (Q := fun x H' => ∃ k, x = .bl k ∧ Q k H') hd hd' hd'' ra rb rc rd hw s (hh.bind.mono (fun y hy H' po => ?_) fun _ _ z => z)
  obtain ⟨d, ρ'⟩ := y
  cases d with
  | bl k => exact ⟨k, rfl, k, rfl, hy H' po⟩
  | _ => exact hy.elim
end
section
variable {X : Cx} {E : XK} {es : List Expr} {g : MS} {pos : Pos}
theorem MI.same {K : PySem.W.Frag} {O : Addr → Prop} {H H' : Hp} (e : Same H H') : ∀ {qs : List Addr} {vs : List V} {bs : List B}, MI K O H qs vs bs → MI K O H' qs vs bs
  | _, _, _, .nil => .nil
  | _, _, _, .va r t => .va (r.same e) (MI.same e t)
  | _, _, _, .ow o h r t => .ow o (e _ _ h) (r.same e) (MI.same e t)
theorem par_endU {b : Bs} {O W : Addr → Prop} {De : Ends} {σ : St} {H : Hp} {ρ : List B} {is : List Nat} {R : List V → Hp → Prop} {t : TA} (s : SI X.K b O W σ H ρ)
    (rt : ∀ (O W : Addr → Prop) (σ : St) (H : Hp) (ρ : List B) (Q : List V → Hp → Prop), StR X.K O W σ H ρ →
      Wr (g ρ) (fun r => ∀ vs qs H', StR X.K (fun a => O a ∨ a ∈ qs) W σ H' r.2 → Ext W H H' → Kd ρ r.2 → qs.Nodup → (∀ q ∈ qs, H q = none) → MI X.K (fun a => O a ∨ a ∈ qs) H' qs vs r.1 → Q vs H') (EX X E O W H) → t σ H Q)
    (h : FlOk X E b O W H De (sPar is g ρ)) (hR : ∀ vs H', vs.length = is.length → (∀ p, H' p = none → De.nx (setS σ is vs) (upd H' p (.tup vs))) → R vs H') : t σ H R := by
  refine rt O W σ H ρ _ s.st ((FlOk.rs s h).mono (fun x hx vs qs H1 st1 ex1 kd nd fr mi1 => ?_) fun _ _ z => z)
  have hlen := mi1.lens
  by_cases hl : x.1.length = is.length
  · rw [if_pos hl] at hx
    refine hR vs H1 (by rw [hlen]; exact hl) fun pp np => ?_
    have sm : Same H1 (upd H1 pp (.tup vs)) := same_new np
    generalize hH : upd H1 pp (.tup vs) = H' at sm
    have st := st1.same sm
    have ex := ex1.trans (Ext.of_same sm)
    have mi := mi1.same sm
    have bn : ∀ q ∈ qs, b.H q = none := fun q hq => by
      have n := fr q hq
      cases e : b.H q with
      | none => rfl
      | some o =>
        by_cases w : b.W q
        · exact absurd n (s.st.al _ (s.up _ (s.bsub _ w)))
        · have := s.ext q o w e
          rw [n] at this; cases this
    have s1 : SI X.K b (fun a => O a ∨ a ∈ qs) W σ H' x.2 :=
      ⟨st, fun a o w h => ex a o (fun z => (s.own a z).elim w fun e => by rw [h] at e; cases e) (s.ext a o w h), s.bal, fun a z => .inl (s.up a z), s.bsub, s.own,
        fun i q e1 e2 => s.loc i q (by rw [← kd i]; exact e1) e2, fun i e1 => s.bor i (by rw [← kd i]; exact e1)⟩
    obtain ⟨W', s2, hw⟩ := SI.setM (is := is) mi s1 nd bn (fun q hq j h1 h2 => by
      have k1 : kindB x.2[j]? = kindB ρ[j]? := kd j
      cases ej : ρ[j]? with
      | none => rw [isOw, k1, ej] at h1; cases h1
      | some c =>
        cases c with
        | ow k es =>
          obtain ⟨p', vs', g1, g2, g3, g4⟩ := s.st.slot j _ ej
          rw [h2] at g1
          cases g1
          rw [fr q hq] at g3; cases g3
        | _ => rw [isOw, k1, ej] at h1; cases h1) (by rw [hlen]; exact hl.symm)
    exact hx _ _ _ _ s2 ⟨ex, fun a z => z.elim .inl fun z => .inr (fr a z), fun a z => (hw a z).elim .inl fun z => .inr (fr a z)⟩
  · rw [if_neg hl] at hx
    exact hx.elim
theorem ss_parU (i j : Nat) {x y : Str} {a b : Expr} {px py pt : Pos} {kt k2 : Nat} {pt2 : Pos} (hm : MV X E [a, b] g) (hc : X.calm = true) (hN : X.N.Nodup) (hi : X.N[i]? = some x := by rfl) (hj : X.N[j]? = some y := by rfl)
    (hx : Loc X.env.scope x := by first | exact Or.inl rfl | exact Or.inr rfl) (hy : Loc X.env.scope y := by first | exact Or.inl rfl | exact Or.inr rfl)
    (hfx : X.fn x = true ∨ X.env.scope.names.lookup x = some .local := by first | exact .inl rfl | exact .inr rfl) (hfy : X.fn y = true ∨ X.env.scope.names.lookup y = some .local := by first | exact .inl rfl | exact .inr rfl)
    (hw : swappedStores [.Tuple [.Name x px, .Name y py] kt pt] (.Tuple [a, b] k2 pt2) X.env = pure none := by rfl)
    (hs : swapsWithSole [.Tuple [.Name x px, .Name y py] kt pt] (.Tuple [a, b] k2 pt2) pos.line X.env = pure false := by rfl)
    (h1 : (assignEach [.Tuple [.Name x px, .Name y py] kt pt] X.env).map (·.2) = [assign (.Tuple [.Name x px, .Name y py] kt pt) X.env] := by rfl)
    (hn : (assignEach [.Name x px, .Name y py] X.env).length = 2 := by rfl) (hst : (assignEach [.Name x px, .Name y py] X.env).findIdx? (·.1) = none := by rfl)
    (ha1 : (assignEach [.Name x px, .Name y py] X.env).map (·.2) = assign (.Name x px) X.env :: (assignEach [.Name y py] X.env).map (·.2) := by rfl)
    (ha2 : (assignEach [.Name y py] X.env).map (·.2) = assign (.Name y py) X.env :: (assignEach [] X.env).map (·.2) := by rfl) :
    SS X E (.Assign [.Tuple [.Name x px, .Name y py] kt pt] (.Tuple [a, b] k2 pt2) pos) (sPar [i, j] g) := by
  obtain ⟨t, pt, rt⟩ := hm.ex
  refine ⟨_, ps_asg (pe_tup pt) (pg_tup (n := 2) hc (pgs_cons (pg_name hN hi hx hfx) (pgs_cons (pg_name hN hj hy hfy) pgs_nil ha2) ha1) hn hst) hs hw h1, fun b O W De σ H ρ s h => ?_⟩
  refine par_endU (R := fun vs H' => vs.length ≤ sizeLine ∧ ∀ p, H' p = none → _) s rt h fun vs H' hl hn => ?_
  match vs, hl with
  | [v, w], _ =>
    refine ⟨(show 2 ≤ sizeLine by decide), fun p np => ?_⟩
    exact ⟨p, [v, w], rfl, .inl (.inl upd_same), rfl, v, [w], rfl, w, [], rfl, rfl, hn p np⟩
end
end RT
namespace RT
open PySem PySem.Spec PyProof.Rows L2 HT
section
variable {prog : Program} {w : World} {A : Around} {E : Value → Shared → Prop} {s : Shared}
theorem adjust_rev (n : Nat) : Builtin.Slice.sliceAdjust none none (-1) (n : Int) = ((n : Int) - 1, -1) := rfl
theorem places_rev (n : Nat) : Builtin.Slice.slicePlaces ((n : Int) - 1) (-1) (-1) = n := by
  unfold Builtin.Slice.slicePlaces
  rw [if_neg (by decide)]
  by_cases h : (n : Int) - 1 > -1
  · rw [if_pos h, show -(-1 : Int) = 1 by decide, Int.ediv_one]
    omega
  · rw [if_neg h]
    omega
theorem pick_rev (xs : Array Value) : ((List.range xs.size).filterMap fun (m : Nat) => xs[(((xs.size : Int) - 1) + (m : Int) * (-1)).toNat]?).toArray = xs.toList.reverse.toArray := by
  congr 1
  have e : ∀ m ∈ List.range xs.size, xs[(((xs.size : Int) - 1) + (m : Int) * (-1)).toNat]? = some (xs[xs.size - 1 - m]?.getD default) := fun m hm => by
    have h := List.mem_range.mp hm
    have h2 : (((xs.size : Int) - 1) + (m : Int) * (-1)).toNat = xs.size - 1 - m := by omega
    rw [h2]
    have h3 : xs.size - 1 - m < xs.size := by omega
    rw [Array.getElem?_eq_getElem h3]
    rfl
  have e2 : ∀ (L : List Nat), (∀ m ∈ L, m ∈ List.range xs.size) → (L.filterMap fun (m : Nat) => xs[(((xs.size : Int) - 1) + (m : Int) * (-1)).toNat]?) = L.map fun m => xs[xs.size - 1 - m]?.getD default := fun L => by
    induction L with
    | nil => intro _; rfl
    | cons a L ih =>
      intro h
      rw [List.filterMap_cons, e a (h a List.mem_cons_self), List.map_cons, ih (fun m hm => h m (List.mem_cons_of_mem _ hm))]
  rw [e2 _ (fun m h => h)]
  refine List.ext_getElem (by simp) fun i h1 h2 => ?_
  rw [List.length_map, List.length_range] at h1
  rw [List.getElem_map, List.getElem_range, List.getElem_reverse]
  have h3 : xs.size - 1 - i < xs.size := by omega
  rw [Array.getElem?_eq_getElem h3, Option.getD_some]
  simp
theorem sliceApplied_rev {sl : Addr} {vl vu vs : Value} {n : Nat} {Q : Int × Int × Nat → Shared → Prop} (hs : s.heap.IsSliceOf sl vl vu vs) (pl : IsPart vl none) (pu : IsPart vu none) (ps : IsPart vs (some (-1)))
    (h : Q ((n : Int) - 1, -1, n) s) : wpAny (model prog w) A (Builtin.Slice.sliceApplied (.ref sl) (pure (n : Int))) Q E s := by
  obtain ⟨os, hos, hcs, hds⟩ := id hs
  unfold Builtin.Slice.sliceApplied Builtin.Slice.sliceFields
  refine wpAny_bind (wpAny_bind (wpAny_field hos hds (x := vl) rfl (wpAny_bind (wpAny_field hos hds (x := vu) rfl (wpAny_bind (wpAny_field hos hds (x := vs) rfl (wpAny_pure ?_)))))))
  refine wpAny_bind (slicePart_ ps ?_)
  show wpAny _ _ (if ((-1 : Int) == 0) = true then _ else _) _ _ s
  rw [if_neg (by decide)]
  refine wpAny_bind (slicePart_ pl (wpAny_bind (slicePart_ pu (wpAny_bind (wpAny_pure ?_)))))
  show wpAny _ _ (match Builtin.Slice.sliceAdjust none none (-1) (n : Int) with | (lo, hi) => pure (lo, (-1 : Int), Builtin.Slice.slicePlaces lo hi (-1))) _ _ s
  rw [adjust_rev]
  show wpAny _ _ (pure ((n : Int) - 1, (-1 : Int), Builtin.Slice.slicePlaces ((n : Int) - 1) (-1) (-1))) _ _ s
  rw [places_rev]
  exact wpAny_pure h
theorem getItem_tuple_rev {t sl : Addr} {items : Array Value} {vl vu vs : Value} {Q : Value → Shared → Prop} (ht : IsTup s.heap t items) (hs : s.heap.IsSliceOf sl vl vu vs) (pl : IsPart vl none) (pu : IsPart vu none) (ps : IsPart vs (some (-1)))
    (h : Q (.ref s.heap.objs.size) { s with heap := s.heap.push { cls := .type "tuple", data := .seq items.toList.reverse.toArray } })
    (hsz : items.size ≤ sizeLine) : wpAny (model prog w) A (getItem (.ref t) (.ref sl)) Q E s := by
  have htake : sizeOk (.seq items.toList.reverse.toArray) := by
    show items.toList.reverse.toArray.size ≤ sizeLine
    rw [List.size_toArray, List.length_reverse, Array.length_toList]
    exact hsz
  obtain ⟨os, hos, hcs, hds⟩ := id hs
  have hTs : s.TypeIs (.ref sl) "slice" := ⟨os, hos, hcs⟩
  unfold getItem
  try with_reducible refine wpAny_holding ?_
  first | refine wpAny_bind (wpAny_pure ?_) | skip
  refine wpAny_bind (wpAny_sequenceKey ht.typeIs (by decide) ?_)
  refine wpAny_bind (wpAny_callSpecial?_slot (name := Str.ofString "__getitem__") ht.typeIs PyProof.Rows.slot_tuple_getitem
    (wpAny_call_entry PyProof.Rows.slot_tuple_getitem ht.typeIs entry_tuple_getitem ?_ (args_tuple_getitem _ _)))
  show wpAny _ _ (Builtin.Tuple.tupleItemsOf (.ref t) >>= _) _ _ s
  refine wpAny_bind (tupleItemsOf_ ht ?_)
  refine wpAny_bind (wpAny_typeOf hTs ?_)
  rw [if_pos (by decide)]
  refine wpAny_bind (sliceApplied_rev hs pl pu ps ?_)
  have hno : ¬ (((items.size : Int) - 1 == 0 && (-1 : Int) == 1 && items.size == items.size) = true) := by
    intro q
    rw [Bool.and_eq_true, Bool.and_eq_true] at q
    exact absurd q.1.2 (by decide)
  show wpAny _ _ (if ((items.size : Int) - 1 == 0 && (-1 : Int) == 1 && items.size == items.size) = true then _ else _) _ _ s
  rw [if_neg hno, pick_rev]
  first
    | exact wpAny_bind (m := Builtin.Tuple.tupleExact _) (wpAny_newObj_type (wpAny_pure ⟨_, rfl, wpAny_pure h⟩) htake)
    | exact wpAny_bind (m := Builtin.Tuple.tupleExact _) (wpAny_newObj_type (wpAny_bind (wpAny_pure (wpAny_pure ⟨_, rfl, wpAny_pure h⟩))) htake)
    | exact wpAny_bind (wpAny_bind (m := Builtin.Tuple.tupleExact _) (wpAny_newObj_type (wpAny_pure (wpAny_pure ⟨_, rfl, wpAny_pure h⟩)) htake))
    | exact wpAny_bind (wpAny_bind (m := Builtin.Tuple.tupleExact _) (wpAny_newObj_type (wpAny_pure ⟨_, rfl, wpAny_pure h⟩) htake))
end
section
variable {K : PySem.W.Frag} {w w1 w2 : Bool} {X : Cx} {E : XK} {p q : Bool}
def tRevA (K : PySem.W.Frag) (te : TE) : TE := fun σ H Q => te σ H fun x H1 => (∃ a xs, x = .ref a ∧ SqL K H1 a xs ∧ ∀ p, H1 p = none → Q (.ref p) (upd H1 p (.lst xs.reverse))) ∨ (∃ a xs, x = .ref a ∧ SqT K H1 a xs ∧ ∀ p, H1 p = none → Q (.ref p) (upd H1 p (.tup xs.reverse)))
theorem pe_revA {e : Expr} {te : TE} {k : Nat} {p1 p2 p3 pos : Pos} (he : PE X e te) : PE X (.Subscript e (.Slice none none (some (.UnaryOp .USub (.Constant (.int 1) k p1) p2)) p3) pos) (tRevA X.K te) := by
  refine ⟨fun pins s σ H Q I h => ?_⟩
  refine Subscript_ (thn (he.run pins s σ H _ I h) fun v s1 ⟨x, H1, I1, r1, q1⟩ => ?_)
  have hst : PO X (some (.UnaryOp .USub (.Constant (.int 1) k p1) p2)) (tPart (tUn (rU fun i => .int (-i)) (tC (.int 1)))) := po_some (pe_un un_neg pe_int)
  refine wpAny_Slice (thn (po_none.run pins s1 σ H1 (fun o H2 => o = none ∧ H2 = H1) I1 ⟨rfl, rfl⟩) fun vl s2 ⟨l, H2, I2, pl, el, e2⟩ => ?_)
  subst el e2
  refine thn (po_none.run pins s2 σ H2 (fun o H3 => o = none ∧ H3 = H2) I2 ⟨rfl, rfl⟩) fun vu s3 ⟨u, H3, I3, pu, eu, e3⟩ => ?_
  subst eu e3
  refine thn (hst.run pins s3 σ H3 (fun o H4 => o = some (-1) ∧ H4 = H3) I3 ⟨1, rfl, -1, rfl, rfl, rfl⟩) fun vs s4 ⟨o, H4, I4, ps, eo, e4⟩ => ?_
  subst eo e4
  have I5 : Inv X pins σ H4 { s4 with heap := s4.heap.push { cls := .type "slice", data := .fields #[vl, vu, vs] } } := I4.kept (t' := s4.toks) fun b ob q => Heap.get?_push_of_some _ q
  rcases q1 with ⟨a, xs, ex, hx, q⟩ | ⟨a, xs, ex, hx, q⟩
  · subst ex
    cases r1
    obtain ⟨its, r, ht, hz⟩ := I5.list hx
    have hlen := r.length
    show wpAny (model X.prog X.w) X.A (subscriptTail e (.Slice none none (some (.UnaryOp .USub (.Constant (.int 1) k p1) p2)) p3) (.ref a) (.ref s4.heap.objs.size)) (EP X pins σ Q) X.xe { s4 with heap := s4.heap.push { cls := .type "slice", data := .fields #[vl, vu, vs] } }
    refine tail_any (ops := [.ref a, .ref s4.heap.objs.size]) ht.isList.typeIs (PySem.slot_list_getitem.lookup) ?_ (by with_unfolding_all rfl)
    refine wpAny_getItem_list_slice ht.isList (Heap.IsSliceOf.new _ vl vu vs) pl pu ps (by decide) ?_ (by rw [List.size_toArray]; omega)
    rw [PySem.W.krv_pick]
    refine ⟨.ref _, _, I5.laid (t' := s4.toks) (o := .lst xs.reverse) (fun b ob q => Heap.get?_push_of_some _ q) (Nat.le_refl _) ?_, rfl, q _ (I5.hok.fresh (Nat.le_refl _))⟩
    exact ⟨by rw [List.length_reverse]; exact hz, _, 0, r.reverse, Heap.get?_push_size _ rfl⟩
  · subst ex
    cases r1
    obtain ⟨its, r, ht, hz⟩ := I5.tuple hx
    have hlen := r.length
    show wpAny (model X.prog X.w) X.A (subscriptTail e (.Slice none none (some (.UnaryOp .USub (.Constant (.int 1) k p1) p2)) p3) (.ref a) (.ref s4.heap.objs.size)) (EP X pins σ Q) X.xe { s4 with heap := s4.heap.push { cls := .type "slice", data := .fields #[vl, vu, vs] } }
    refine tail_any (ops := [.ref a, .ref s4.heap.objs.size]) ht.typeIs (PyProof.Rows.slot_tuple_getitem.lookup) ?_ (by with_unfolding_all rfl)
    refine getItem_tuple_rev ht (Heap.IsSliceOf.new _ vl vu vs) pl pu ps ?_ (by rw [List.size_toArray]; omega)
    refine ⟨.ref _, _, I5.laid (t' := s4.toks) (o := .tup xs.reverse) (fun b ob q => Heap.get?_push_of_some _ q) (Nat.le_refl _) ?_, rfl, q _ (I5.hok.fresh (Nat.le_refl _))⟩
    exact ⟨by rw [List.length_reverse]; exact hz, _, r.reverse, IsTup.new _ _⟩
def dRevA : D → Option D
  | .lst ds => some (.lst ds.reverse)
  | .tup ds => some (.tup ds.reverse)
  | _ => none
theorem ev_revA {e : Expr} {fe : ES} {k : Nat} {p1 p2 p3 pos : Pos} (ha : EV X E p w1 e fe) : EV X E p w (.Subscript e (.Slice none none (some (.UnaryOp .USub (.Constant (.int 1) k p1) p2)) p3) pos) (eUn dRevA fe) := by
  obtain ⟨t, pt, rt⟩ := ha.ex
  refine ⟨_, pe_revA pt, fun O W σ H ρ Q s h => ?_⟩
  refine rt O W σ H ρ _ s (h.bind.mono (fun x hx v H1 po r => ?_) fun _ _ z => z)
  obtain ⟨z, ez, hz⟩ := hx.bind.ofO
  obtain ⟨d, ρ1⟩ := x
  cases d with
  | lst ds =>
    cases ez
    obtain ⟨a, vs, rfl, h1, h2⟩ := r.lst_inv
    exact .inl ⟨a, vs, rfl, h1, fun q hq => hz _ _ (po.more (same_new hq)) (.inl (Rep.newL po.st.al hq h2.reverse))⟩
  | tup ds =>
    cases ez
    obtain ⟨a, vs, rfl, h1, h2⟩ := r.tup_inv
    exact .inr ⟨a, vs, rfl, h1.sq, fun q hq => hz _ _ (po.more (same_new hq)) (.inl (Rep.newT po.st.al hq h2.reverse))⟩
  | _ => cases ez
def oIf (c : BS) (f g : AS) : AS := fun ρ => (c ρ).bind fun x => match x.1 with
  | true => f x.2
  | false => g x.2
theorem eo_if {p3 : Bool} {c a b : Expr} {bc : BS} {fa fb : AS} {pos : Pos} (hc : TV X E p c bc) (ha : EO X E q a fa) (hb : EO X E p3 b fb) : EO X E (p && (q && p3)) (.IfExp c a b pos) (oIf bc fa fb) := by
  obtain ⟨tc, pc, rc⟩ := hc.ex
  obtain ⟨ta, pa, ra⟩ := ha.ex
  obtain ⟨tb, pb, rb⟩ := hb.ex
  refine ⟨_, pe_ifExp pc pa pb, fun O W σ H ρ Q s h => ?_⟩
  refine rc O W σ H ρ _ s (h.bind.mono (fun x hx H1 p1 => ?_) fun _ _ z => z)
  obtain ⟨k, ρ1⟩ := x
  cases k with
  | true => exact iteT (ra O W σ H1 ρ1 _ p1.st (Wr.mono hx (fun y hy q vs H2 hn p2 st hq r2 => hy q vs H2 (p1.free' hn) ((p1.trans p2).weak fun e => by
      obtain ⟨e1, e2⟩ := Bool.and_eq_true_iff.mp e
      rw [e1, (Bool.and_eq_true_iff.mp e2).1] <;> rfl) st hq r2) fun _ _ z => z.on p1.ext))
  | false => exact iteF (rb O W σ H1 ρ1 _ p1.st (Wr.mono hx (fun y hy q vs H2 hn p2 st hq r2 => hy q vs H2 (p1.free' hn) ((p1.trans p2).weak fun e => by
      obtain ⟨e1, e2⟩ := Bool.and_eq_true_iff.mp e
      rw [e1, (Bool.and_eq_true_iff.mp e2).2] <;> rfl) st hq r2) fun _ _ z => z.on p1.ext))
end
end RT
namespace RT
open PySem PySem.Spec PyProof.Rows L2
section
variable {ρ : List B} {d : D} {f g h : ES} {a b : AS} {c c2 : BS} {F G : List B → Fl} {i j : Nat}
@[simp] theorem r_eC : eC d ρ = .ok (d, ρ) := rfl
@[simp] theorem r_eSlot : eSlot i ρ = match ρ[i]? with | some (.va d) => .ok (d, ρ) | _ => .bad := rfl
@[simp] theorem r_eSlotW : eSlotW i ρ = match ρ[i]? with | some (.va d) => .ok (d, ρ) | some (.ow _ ds) => .ok (.lst ds, ρ) | _ => .bad := rfl
@[simp] theorem r_eOp {o : D → D → Option D} : eOp o f g ρ = (f ρ).bind fun x => (g x.2).bind fun y => (ofO (o x.1 y.1)).bind fun z => .ok (z, y.2) := rfl
@[simp] theorem r_eUn {o : D → Option D} : eUn o f ρ = (f ρ).bind fun x => (ofO (o x.1)).bind fun z => .ok (z, x.2) := rfl
@[simp] theorem r_bV : bV f ρ = (f ρ).bind fun x => match x.1 with | .bl b => .ok (b, x.2) | _ => .bad := rfl
@[simp] theorem r_bNot : bNot c ρ = (c ρ).bind fun x => .ok (!x.1, x.2) := rfl
@[simp] theorem r_bAnd : bAnd c c2 ρ = (c ρ).bind fun x => match x.1 with | true => c2 x.2 | false => .ok (false, x.2) := rfl
@[simp] theorem r_bOr : bOr c c2 ρ = (c ρ).bind fun x => match x.1 with | true => .ok (true, x.2) | false => c2 x.2 := rfl
@[simp] theorem r_eIf : eIf c f g ρ = (c ρ).bind fun x => match x.1 with | true => f x.2 | false => g x.2 := rfl
@[simp] theorem r_eAnd : eAnd f g ρ = (f ρ).bind fun x => match x.1 with | .bl true => g x.2 | .bl false => .ok (.bl false, x.2) | _ => .bad := rfl
@[simp] theorem r_eOr : eOr f g ρ = (f ρ).bind fun x => match x.1 with | .bl true => .ok (.bl true, x.2) | .bl false => g x.2 | _ => .bad := rfl
@[simp] theorem r_eNot : eNot f ρ = (f ρ).bind fun x => match x.1 with | .bl k => .ok (.bl (!k), x.2) | _ => .bad := rfl
@[simp] theorem r_eChain {o o2 : D → D → Option D} : eChain o o2 f g h ρ = (f ρ).bind fun x => (g x.2).bind fun y => (ofO (o x.1 y.1)).bind fun z => match z with
  | .bl true => (h y.2).bind fun u => (ofO (o2 y.1 u.1)).bind fun z => match z with
    | .bl k => .ok (.bl k, u.2)
    | _ => .bad
  | .bl false => .ok (.bl false, y.2)
  | _ => .bad := rfl
@[simp] theorem r_aNil : aNil ρ = .ok ([], ρ) := rfl
@[simp] theorem r_aCons : aCons f a ρ = (f ρ).bind fun x => (a x.2).bind fun y => .ok (x.1 :: y.1, y.2) := rfl
@[simp] theorem r_aStar : aStar f a ρ = (f ρ).bind fun x => (ofO (seqD x.1)).bind fun ds => (a x.2).bind fun y => .ok (ds ++ y.1, y.2) := rfl
@[simp] theorem r_eTup : eTup a ρ = (a ρ).bind fun x => if x.1.length ≤ sizeLine then .ok (.tup x.1, x.2) else .bad := rfl
@[simp] theorem r_oLst : oLst a ρ = (a ρ).bind fun x => if x.1.length ≤ sizeLine then .ok (x.1, x.2) else .bad := rfl
@[simp] theorem r_eO : eO a ρ = (a ρ).bind fun x => .ok (.lst x.1, x.2) := rfl
@[simp] theorem r_eBlt {o : List D → Option D} : eBlt o a ρ = (a ρ).bind fun x => (ofO (o x.1)).bind fun z => .ok (z, x.2) := rfl
@[simp] theorem r_oBlt {o : List D → Option (List D)} : oBlt o a ρ = (a ρ).bind fun x => (ofO (o x.1)).bind fun z => .ok (z, x.2) := rfl
@[simp] theorem r_eSl {p q : List B → Rs (Option Int × List B)} : eSl f p q ρ = (f ρ).bind fun x => (p x.2).bind fun y => (q y.2).bind fun z => (ofO (dSl x.1 y.1 z.1)).bind fun d => .ok (d, z.2) := rfl
@[simp] theorem r_oNo : oNo ρ = .ok (none, ρ) := rfl
@[simp] theorem r_oAt : oAt f ρ = (f ρ).bind fun x => match x.1 with | .int i => .ok (some i, x.2) | _ => .bad := rfl
@[simp] theorem r_eIndex : eIndex f g ρ = (f ρ).bind fun x => (ofO (lstD x.1)).bind fun ds => (g x.2).bind fun y => (ofO (dIndex (.lst ds) y.1)).bind fun z => .ok (z, y.2) := rfl
@[simp] theorem r_eApp : eApp i f ρ = (atOw i ρ).bind fun _ => (f ρ).bind fun x => (atOw i x.2).bind fun y => if y.2.length < sizeLine then .ok (.non, x.2.set i (.ow y.1 (y.2 ++ [x.1]))) else .bad := rfl
@[simp] theorem r_atOw : atOw i ρ = match ρ[i]? with | some (.ow k ds) => .ok (k, ds) | _ => .bad := rfl
@[simp] theorem r_eCall {Fn : FS} : eCall Fn a ρ = (a ρ).bind fun x => (noX (Fn (x.1.map .va))).bind fun y => .ok (y.1, x.2) := rfl
@[simp] theorem r_eCallB {Fn : FS} : eCallB j Fn a ρ = (atOw j ρ).bind fun _ => (a ρ).bind fun x => (atOw j x.2).bind fun z => (noX (Fn (.ow true z.2 :: x.1.map .va))).bind fun y => match y.2 with
  | .ow true es :: _ => .ok (y.1, x.2.set j (.ow z.1 es))
  | _ => .bad := rfl
@[simp] theorem r_oCall {Fn : FSO} : oCall Fn a ρ = (a ρ).bind fun x => (noX (Fn x.1)).bind fun y => .ok (y, x.2) := rfl
@[simp] theorem r_eCall0 {Fn : FS} : eCall0 Fn ρ = (noX (Fn [])).bind fun y => .ok (y.1, ρ) := rfl
@[simp] theorem r_iSeq : iSeq f ρ = (f ρ).bind fun x => (ofO (seqD x.1)).bind fun ds => .ok (ds, x.2) := rfl
@[simp] theorem r_iRange1 : iRange1 f ρ = (f ρ).bind fun x => match x.1 with | .int n => (ofO (rangeD 0 n)).bind fun ds => .ok (ds, x.2) | _ => .bad := by
  unfold iRange1
  rfl
@[simp] theorem r_iEnum : iEnum' f ρ = (f ρ).bind fun x => (ofO (seqD x.1)).bind fun ds => .ok (enumD 0 ds, x.2) := rfl
@[simp] theorem r_iZip : iZip' f g ρ = (f ρ).bind fun x => (g x.2).bind fun y => (ofO (seqD x.1)).bind fun ds => (ofO (seqD y.1)).bind fun es => .ok (zipD ds es, y.2) := rfl
@[simp] theorem r_oZip : oZip f g ρ = (f ρ).bind fun x => (g x.2).bind fun y => (ofO (seqD x.1)).bind fun ds => (ofO (seqD y.1)).bind fun es => if (zipD ds es).length ≤ sizeLine then .ok (zipD ds es, y.2) else .bad := rfl
@[simp] theorem r_oRg1 : oRg1 f ρ = (f ρ).bind fun x => match x.1 with | .int n => (ofO (rgD 0 n)).bind fun ds => .ok (ds, x.2) | _ => .bad := rfl
@[simp] theorem r_bYes : bYes ρ = .ok (true, ρ) := rfl
@[simp] theorem r_sNx : sNx ρ = .nx ρ := rfl
@[simp] theorem r_sSeq : sSeq F G ρ = match F ρ with | .nx ρ1 => G ρ1 | f => f := rfl
@[simp] theorem r_sRs_ok {α : Type} {x : α} {k : α → Fl} : sRs (.ok x) k = k x := rfl
@[simp] theorem r_sRs_bad {α : Type} {k : α → Fl} : sRs .bad k = .bad := rfl
@[simp] theorem r_sDo : sDo f ρ = sRs (f ρ) fun x => .nx x.2 := rfl
@[simp] theorem r_sRet : sRet f ρ = sRs (f ρ) fun x => .rt x.1 x.2 := rfl
@[simp] theorem r_sRetO : sRetO a ρ = sRs (a ρ) fun x => .ro x.1 x.2 := rfl
@[simp] theorem r_sIf : sIf c F G ρ = sRs (c ρ) fun x => match x.1 with | true => F x.2 | false => G x.2 := rfl
@[simp] theorem r_sSet : sSet i f ρ = sRs (f ρ) fun x => .nx (x.2.set i (.va x.1)) := rfl
@[simp] theorem r_sSetO : sSetO i a ρ = sRs (a ρ) fun x => .nx (x.2.set i (.ow false x.1)) := rfl
@[simp] theorem r_sAug {o : D → D → Option D} : sAug i o f ρ = sRs (eSlot i ρ) fun z => sRs (f ρ) fun x => sRs (ofO (o z.1 x.1)) fun d => .nx (x.2.set i (.va d)) := rfl
@[simp] theorem r_sFz : sFz i F ρ = F (fzB i ρ) := rfl
@[simp] theorem r_fzB : fzB i ρ = match ρ[i]? with | some (.ow false ds) => ρ.set i (.va (.lst ds)) | _ => ρ := rfl
@[simp] theorem r_sPut : sPut i g f ρ = sRs (f ρ) fun x => sRs (atOw i x.2) fun _ => sRs (g x.2) fun y => sRs (atOw i y.2) fun z => match y.1 with
  | .int k => match ixN z.2.length k with
    | some j => .nx (y.2.set i (.ow z.1 (z.2.set j x.1)))
    | none => .bad
  | _ => .bad := rfl
@[simp] theorem r_sFor {tg : D → Option (List (Nat × D))} : sFor a tg F ρ = sRs (a ρ) fun x => forGo tg F x.1 x.2 := rfl
@[simp] theorem r_sUnp {tg : D → Option (List (Nat × D))} : sUnp f tg ρ = sRs (f ρ) fun x => sRs (ofO (tg x.1)) fun as => .nx (putB x.2 as) := rfl
@[simp] theorem r_sPar {is : List Nat} {m : MS} : sPar is m ρ = sRs (m ρ) fun x => if x.1.length = is.length then .nx (setB x.2 is x.1) else .bad := rfl
@[simp] theorem r_mNil : mNil ρ = .ok ([], ρ) := rfl
@[simp] theorem r_mVa {m : MS} : mVa f m ρ = (f ρ).bind fun x => (m x.2).bind fun y => .ok (.va x.1 :: y.1, y.2) := rfl
@[simp] theorem r_mOw {m : MS} : mOw a m ρ = (a ρ).bind fun x => (m x.2).bind fun y => .ok (.ow false x.1 :: y.1, y.2) := rfl
@[simp] theorem r_setB0 {is : List Nat} : setB ρ is [] = ρ := by cases is <;> rfl
@[simp] theorem r_setB1 {is : List Nat} {b : B} {bs : List B} : setB ρ (i :: is) (b :: bs) = setB (ρ.set i b) is bs := rfl
@[simp] theorem r_gN : gN i d = some [(i, d)] := rfl
@[simp] theorem r_gsNil : gsNil [] = some [] := rfl
@[simp] theorem r_gsCons {tg : D → Option (List (Nat × D))} {tgs : List D → Option (List (Nat × D))} {ds : List D} : gsCons tg tgs (d :: ds) = (tg d).bind fun a => (tgs ds).bind fun b => some (a ++ b) := rfl
@[simp] theorem r_gT {tgs : List D → Option (List (Nat × D))} {ds : List D} : gT tgs (.tup ds) = tgs ds := rfl
@[simp] theorem r_putB0 : putB ρ [] = ρ := rfl
@[simp] theorem r_putB1 {r : List (Nat × D)} : putB ρ ((i, d) :: r) = putB (ρ.set i (.va d)) r := rfl
@[simp] theorem r_wipeB0 : wipeB ρ [] = ρ := rfl
@[simp] theorem r_wipeB1 {vs : List Nat} : wipeB ρ (i :: vs) = (wipeB ρ vs).set i .un := rfl
@[simp] theorem r_restB0 {ρ1 : List B} : restB ρ1 ρ [] = ρ := rfl
@[simp] theorem r_restB1 {ρ1 : List B} {vs : List Nat} : restB ρ1 ρ (i :: vs) = (restB ρ1 ρ vs).set i (ρ1.getD i .un) := rfl
@[simp] theorem r_seqT {ds : List D} : seqD (.tup ds) = some ds := rfl
@[simp] theorem r_seqL {ds : List D} : seqD (.lst ds) = some ds := rfl
@[simp] theorem r_lstD {ds : List D} : lstD (.lst ds) = some ds := rfl
end
@[simp] theorem r_addI {i j : Int} : dAdd (.int i) (.int j) = some (.int (i + j)) := rfl
@[simp] theorem r_subI {i j : Int} : dSub (.int i) (.int j) = some (.int (i - j)) := rfl
@[simp] theorem r_iaddI {i j : Int} : dIAdd (.int i) (.int j) = some (.int (i + j)) := rfl
@[simp] theorem r_neg {i : Int} : dNeg (.int i) = some (.int (-i)) := rfl
@[simp] theorem r_mulI {i j : Int} : dMul (.int i) (.int j) = if CMulW i j then some (.int (i * j)) else none := rfl
@[simp] theorem r_divI {i j : Int} : dDiv (.int i) (.int j) = if CDivW i j then some (.int (i / j)) else none := rfl
@[simp] theorem r_modI {i j : Int} : dMod (.int i) (.int j) = if 0 < j then some (.int (i % j)) else none := rfl
@[simp] theorem r_powI {i j : Int} : dPow (.int i) (.int j) = if CPowW i j then some (.int (i ^ j.toNat)) else none := rfl
@[simp] theorem r_ltI {i j : Int} : dLt (.int i) (.int j) = some (.bl (decide (i < j))) := rfl
@[simp] theorem r_leI {i j : Int} : dLe (.int i) (.int j) = some (.bl (decide (i ≤ j))) := rfl
@[simp] theorem r_gtI {i j : Int} : dGt (.int i) (.int j) = some (.bl (decide (j < i))) := rfl
@[simp] theorem r_geI {i j : Int} : dGe (.int i) (.int j) = some (.bl (decide (j ≤ i))) := rfl
@[simp] theorem r_eqI {i j : Int} : dEq (.int i) (.int j) = some (.bl (i == j)) := rfl
@[simp] theorem r_neI {i j : Int} : dNe (.int i) (.int j) = some (.bl (!(i == j))) := rfl
@[simp] theorem r_eqS {i j : Str} : dEq (.str i) (.str j) = some (.bl (i == j)) := rfl
@[simp] theorem r_neS {i j : Str} : dNe (.str i) (.str j) = some (.bl (!(i == j))) := rfl
@[simp] theorem r_ixT {ds : List D} {i : Int} : dIx (.tup ds) (.int i) = (ixN ds.length i).bind fun j => ds[j]? := rfl
@[simp] theorem r_ixL {ds : List D} {i : Int} : dIx (.lst ds) (.int i) = (ixN ds.length i).bind fun j => ds[j]? := rfl
@[simp] theorem r_slT {ds : List D} {i j : Option Int} : dSl (.tup ds) i j = some (.tup (cutD ds i j)) := rfl
@[simp] theorem r_slL {ds : List D} {i j : Option Int} : dSl (.lst ds) i j = some (.lst (cutD ds i j)) := rfl
@[simp] theorem r_lenL {ds : List D} : dLen [.lst ds] = some (.int ds.length) := rfl
@[simp] theorem r_lenT {ds : List D} : dLen [.tup ds] = some (.int ds.length) := rfl
@[simp] theorem r_absI {i : Int} : dAbs [.int i] = some (.int (if i < 0 then -i else i)) := rfl
@[simp] theorem r_intI {i : Int} : dInt [.int i] = some (.int i) := rfl
@[simp] theorem r_intB {i : Bool} : dInt [.bl i] = some (.int (if i then 1 else 0)) := rfl
@[simp] theorem r_tupL {ds : List D} : dTuple [.lst ds] = some (.tup ds) := rfl
@[simp] theorem r_tupT {ds : List D} : dTuple [.tup ds] = some (.tup ds) := rfl
@[simp] theorem r_listL {ds : List D} : dList [.lst ds] = some ds := rfl
@[simp] theorem r_listT {ds : List D} : dList [.tup ds] = some ds := rfl
@[simp] theorem r_max2 {i j : Int} : dMax [.int i, .int j] = some (.int (if j > i then j else i)) := rfl
@[simp] theorem r_min2 {i j : Int} : dMin [.int i, .int j] = some (.int (if j < i then j else i)) := rfl
theorem intsD_map (ns : List Int) : intsD (ns.map D.int) = some ns := by
  induction ns with
  | nil => rfl
  | cons n ns ih => rw [List.map_cons]; show (intsD (ns.map D.int)).map (n :: ·) = _; rw [ih]; rfl
theorem boolsD_map (ns : List Bool) : boolsD (ns.map D.bl) = some ns := by
  induction ns with
  | nil => rfl
  | cons n ns ih => rw [List.map_cons]; show (boolsD (ns.map D.bl)).map (n :: ·) = _; rw [ih]; rfl
theorem r_allL (bs : List Bool) : dAll [.lst (bs.map D.bl)] = some (.bl (bs.all id)) := by
  show (boolsD (bs.map D.bl)).map _ = _; rw [boolsD_map]; rfl
theorem r_anyL (bs : List Bool) : dAny [.lst (bs.map D.bl)] = some (.bl (bs.any id)) := by
  show (boolsD (bs.map D.bl)).map _ = _; rw [boolsD_map]; rfl
theorem r_sumL (bs : List Int) : dSum [.lst (bs.map D.int)] = some (.int bs.sum) := by
  show (intsD (bs.map D.int)).map _ = _; rw [intsD_map]; rfl
theorem r_maxL (bs : List Int) : dMax [.lst (bs.map D.int)] = (maxL bs).map .int := by
  show ((intsD (bs.map D.int)).bind maxL).map _ = _; rw [intsD_map]; rfl
theorem r_minL (bs : List Int) : dMin [.lst (bs.map D.int)] = (minL bs).map .int := by
  show ((intsD (bs.map D.int)).bind minL).map _ = _; rw [intsD_map]; rfl
@[simp] theorem r_mulA_I {i j : Int} : dMulA (.int i) (.int j) = if CMulW i j then some (.int (i * j)) else none := rfl
@[simp] theorem r_sumA_L {ds : List D} : dSumA [.lst ds] = dSum [.lst ds] := rfl
@[simp] theorem r_maxB_L {ds : List D} : dMaxB [.lst ds] = dMax [.lst ds] := rfl
@[simp] theorem r_minB_L {ds : List D} : dMinB [.lst ds] = dMin [.lst ds] := rfl
@[simp] theorem r_maxB_2 {i j : Int} : dMaxB [.int i, .int j] = some (.int (if j > i then j else i)) := rfl
@[simp] theorem r_minB_2 {i j : Int} : dMinB [.int i, .int j] = some (.int (if j < i then j else i)) := rfl
@[simp] theorem r_revA_L {ds : List D} : dRevA (.lst ds) = some (.lst ds.reverse) := rfl
@[simp] theorem r_revA_T {ds : List D} : dRevA (.tup ds) = some (.tup ds.reverse) := rfl
@[simp] theorem r_eChain3 {o o2 o3 : D → D → Option D} {f g h k : ES} {ρ : List B} : eChain3 o o2 o3 f g h k ρ = (f ρ).bind fun x => (g x.2).bind fun y => (ofO (o x.1 y.1)).bind fun z => match z with
  | .bl true => (h y.2).bind fun u => (ofO (o2 y.1 u.1)).bind fun z => match z with
    | .bl true => (k u.2).bind fun v => (ofO (o3 u.1 v.1)).bind fun z => match z with
      | .bl k => .ok (.bl k, v.2)
      | _ => .bad
    | .bl false => .ok (.bl false, u.2)
    | _ => .bad
  | .bl false => .ok (.bl false, y.2)
  | _ => .bad := rfl
@[simp] theorem r_iRange2 {f g : ES} {ρ : List B} : iRange2 f g ρ = (f ρ).bind fun x => (g x.2).bind fun y => match x.1, y.1 with | .int lo, .int hi => (ofO (rangeD lo hi)).bind fun ds => .ok (ds, y.2) | _, _ => .bad := rfl
@[simp] theorem r_sortedA_L {ds : List D} : dSortedA [.lst ds] = dSorted [.lst ds] := rfl
theorem r_sumT (bs : List Int) : dSumA [.tup (bs.map D.int)] = some (.int bs.sum) := by
  show (intsD (bs.map D.int)).map _ = _; rw [intsD_map]; rfl
theorem r_maxT (bs : List Int) : dMaxB [.tup (bs.map D.int)] = (maxL bs).map .int := by
  show ((intsD (bs.map D.int)).bind maxL).map _ = _; rw [intsD_map]; rfl
theorem r_minT (bs : List Int) : dMinB [.tup (bs.map D.int)] = (minL bs).map .int := by
  show ((intsD (bs.map D.int)).bind minL).map _ = _; rw [intsD_map]; rfl
theorem r_sortedT (bs : List Int) : dSortedA [.tup (bs.map D.int)] = some ((sortI bs).map D.int) := by
  show (intsD (bs.map D.int)).map _ = _; rw [intsD_map]; rfl
theorem eCall_eq {Fn : FS} {a : AS} {ρ ρ1 : List B} {ds : List D} {d : D} {r : List B} (ha : a ρ = .ok (ds, ρ1)) (hf : Fn (ds.map .va) = .ok (d, r)) : eCall Fn a ρ = .ok (d, ρ1) := by
  simp only [r_eCall, ha, Rs.ok_bind, hf, noX_ok]
theorem r_sortedL (bs : List Int) : dSorted [.lst (bs.map D.int)] = some ((sortI bs).map D.int) := by
  show (intsD (bs.map D.int)).map _ = _; rw [intsD_map]; rfl
theorem r_allA {α : Type} (L : List α) (f : α → Bool) : dAll [.lst (L.map fun a => D.bl (f a))] = some (.bl (L.all f)) := by
  have e : (L.map fun a => D.bl (f a)) = (L.map f).map D.bl := by rw [List.map_map] <;> rfl
  rw [e, r_allL]
  simp
theorem maxL_some : ∀ {ls : List Int}, ls ≠ [] → ∃ m, maxL ls = some m
  | [], h => absurd rfl h
  | a :: l, _ => ⟨_, rfl⟩
theorem fold_mem : ∀ (l : List Int) (a : Int), l.foldl (fun a b => if b > a then b else a) a = a ∨ l.foldl (fun a b => if b > a then b else a) a ∈ l
  | [], a => .inl rfl
  | b :: l, a => by
    rw [List.foldl_cons]
    rcases fold_mem l (if b > a then b else a) with h | h
    · rw [h]
      split
      · exact .inr List.mem_cons_self
      · exact .inl rfl
    · exact .inr (List.mem_cons_of_mem _ h)
theorem fold_ge : ∀ (l : List Int) (a : Int), a ≤ l.foldl (fun a b => if b > a then b else a) a ∧ ∀ x ∈ l, x ≤ l.foldl (fun a b => if b > a then b else a) a
  | [], a => ⟨Int.le_refl _, fun x h => nomatch h⟩
  | b :: l, a => by
    rw [List.foldl_cons]
    obtain ⟨h1, h2⟩ := fold_ge l (if b > a then b else a)
    have h3 : a ≤ (if b > a then b else a) ∧ b ≤ (if b > a then b else a) := by split <;> omega
    refine ⟨Int.le_trans h3.1 h1, fun x hx => ?_⟩
    rcases List.mem_cons.mp hx with e | e
    · rw [e]; exact Int.le_trans h3.2 h1
    · exact h2 x e
theorem maxL_mem {ls : List Int} {m : Int} (h : maxL ls = some m) : m ∈ ls ∧ ∀ x ∈ ls, x ≤ m := by
  cases ls with
  | nil => cases h
  | cons a l =>
    cases h
    obtain ⟨h1, h2⟩ := fold_ge l a
    refine ⟨?_, fun x hx => ?_⟩
    · rcases fold_mem l a with e | e
      · rw [e]; exact List.mem_cons_self
      · exact List.mem_cons_of_mem _ e
    · rcases List.mem_cons.mp hx with e | e
      · rw [e]; exact h1
      · exact h2 x e
theorem maxL_of {ls : List Int} {m : Int} (h1 : m ∈ ls) (h2 : ∀ x ∈ ls, x ≤ m) : maxL ls = some m := by
  obtain ⟨k, hk⟩ := maxL_some (ls := ls) (fun e => by rw [e] at h1; cases h1)
  obtain ⟨g1, g2⟩ := maxL_mem hk
  have e : k = m := by
    have := h2 k g1
    have := g2 m h1
    omega
  rw [hk, e]
theorem minL_of {ls : List Int} {m : Int} (h1 : m ∈ ls) (h2 : ∀ x ∈ ls, m ≤ x) : minL ls = some m := by
  cases ls with
  | nil => cases h1
  | cons a l =>
    have := mingo l a m (fun y hy => h2 y (List.mem_cons_of_mem _ hy)) (h2 a List.mem_cons_self) (List.mem_cons.mp h1)
    show some _ = _
    rw [this]
theorem restB_wipe {ρ : List B} : ∀ {vs : List Nat}, restB ρ (wipeB ρ vs) vs = ρ := fun {vs} => by
  refine ext_get fun i => ?_
  by_cases hi : i ∈ vs
  · rw [restB_in (wipeB_length _ _) hi]
  · rw [restB_out hi, wipeB_out hi]
section
variable {α : Type} {vs : List Nat} {it : AS} {tg : D → Option (List (Nat × D))} {tt : BS} {te : ES} {ρ ρ1 : List B}
theorem lcGo_pure (hρ : wipeB ρ vs = ρ) (enc : α → D) (c : α → Bool) (f : α → D) : ∀ (L : List α) (acc : List D),
    (∀ a ∈ L, ∃ as, tg (enc a) = some as ∧ (∀ j ∈ as.map (·.1), j ∈ vs) ∧ tt (putB ρ as) = .ok (c a, putB ρ as) ∧ (c a = true → te (putB ρ as) = .ok (f a, putB ρ as))) → acc.length + L.length ≤ sizeLine →
    lcGo vs tg tt te (L.map enc) ρ acc = .ok (acc ++ (L.filter c).map f, ρ)
  | [], acc, _, _ => by simp [lcGo]
  | a :: L, acc, h, hz => by
    obtain ⟨as, h1, h2, h3, h4⟩ := h a List.mem_cons_self
    have ih := lcGo_pure hρ enc c f L
    have hb : ∀ b ∈ L, _ := fun b hb => h b (List.mem_cons_of_mem _ hb)
    have ew : wipeB (putB ρ as) vs = ρ := by
      have := wipeB_put (ρ := ρ) (vs := vs) (us := as) h2
      rw [hρ] at this
      exact this
    rw [List.length_cons] at hz
    rw [List.map_cons]
    unfold lcGo
    rw [h1]
    simp only [h3, noX_ok, Rs.ok_bind]
    cases ec : c a with
    | false =>
      simp only [ew]
      rw [ih acc hb (by omega), List.filter_cons, if_neg (by rw [ec]; simp)]
    | true =>
      simp only [h4 ec, noX_ok, Rs.ok_bind]
      rw [if_pos (by omega), ew, ih (acc ++ [f a]) hb (by simp; omega), List.filter_cons, if_pos ec]
      simp
theorem oLc_pure (L : List α) (enc : α → D) (c : α → Bool) (f : α → D) (hit : it ρ = .ok (L.map enc, ρ1)) (hno : noOw ρ1 vs = true)
    (hb : ∀ a ∈ L, ∃ as, tg (enc a) = some as ∧ (∀ j ∈ as.map (·.1), j ∈ vs) ∧ tt (putB (wipeB ρ1 vs) as) = .ok (c a, putB (wipeB ρ1 vs) as) ∧ (c a = true → te (putB (wipeB ρ1 vs) as) = .ok (f a, putB (wipeB ρ1 vs) as)))
    (hz : L.length ≤ sizeLine) : oLc vs it tg tt te ρ = .ok ((L.filter c).map f, ρ1) := by
  unfold oLc
  rw [hit, Rs.ok_bind]
  have e0 : wipeB (wipeB ρ1 vs) vs = wipeB ρ1 vs := by simpa using wipeB_put (ρ := ρ1) (vs := vs) (us := []) (fun i h => nomatch h)
  simp only [hno, if_true]
  rw [lcGo_pure e0 enc c f L [] hb (by simpa using hz)]
  simp [restB_wipe]
theorem oLc_map (L : List α) (enc : α → D) (f : α → D) (hit : it ρ = .ok (L.map enc, ρ1)) (hno : noOw ρ1 vs = true)
    (hb : ∀ a ∈ L, ∃ as, tg (enc a) = some as ∧ (∀ j ∈ as.map (·.1), j ∈ vs) ∧ te (putB (wipeB ρ1 vs) as) = .ok (f a, putB (wipeB ρ1 vs) as))
    (hz : L.length ≤ sizeLine) : oLc vs it tg bYes te ρ = .ok (L.map f, ρ1) := by
  have := oLc_pure (tt := bYes) (te := te) L enc (fun _ => true) f hit hno (fun a ha => by
    obtain ⟨as, h1, h2, h3⟩ := hb a ha
    exact ⟨as, h1, h2, rfl, fun _ => h3⟩) hz
  rw [this, List.filter_eq_self.mpr fun _ _ => rfl]
theorem lcGo_st {S β : Type} (I : Nat → S → Prop) (En : S → List B) (enc : α → D) (encB : β → D) (R : α → β → Prop) : ∀ (L : List α) (k : Nat) (s : S) (acc : List D), I k s →
    (∀ a ∈ L, ∀ j s, k ≤ j → j < k + L.length → I j s → ∃ as b s' ρ5, tg (enc a) = some as ∧ te (putB (En s) as) = .ok (encB b, ρ5) ∧ wipeB ρ5 vs = En s' ∧ I (j + 1) s' ∧ R a b) → acc.length + L.length ≤ sizeLine →
    ∃ (bs : List β) (s' : S), lcGo vs tg bYes te (L.map enc) (En s) acc = .ok (acc ++ bs.map encB, En s') ∧ I (k + L.length) s' ∧ bs.length = L.length ∧ ∀ (i : Nat) (a : α) (b : β), L[i]? = some a → bs[i]? = some b → R a b
  | [], k, s, acc, hI, _, _ => ⟨[], s, by simp [lcGo], hI, rfl, fun i a d h => by simp at h⟩
  | a :: L, k, s, acc, hI, h, hz => by
    obtain ⟨as, b, s', ρ5, h1, h2, h3, h4, h5⟩ := h a List.mem_cons_self k s (Nat.le_refl _) (by simp) hI
    rw [List.length_cons] at hz
    obtain ⟨outs, s2, q1, q2, q3, q4⟩ := lcGo_st I En enc encB R L (k + 1) s' (acc ++ [encB b]) h4 (fun b hb j s hj hj2 => h b (List.mem_cons_of_mem _ hb) j s (by omega) (by simp; omega)) (by simp; omega)
    refine ⟨b :: outs, s2, ?_, by rw [List.length_cons, show k + (L.length + 1) = k + 1 + L.length by omega]; exact q2, by simp [q3], fun i x e g1 g2 => ?_⟩
    · rw [List.map_cons]
      unfold lcGo
      rw [h1]
      simp only [r_bYes, noX_ok, Rs.ok_bind, h2]
      rw [if_pos (by omega), h3, q1]
      simp
    · cases i with
      | zero =>
        simp at g1 g2
        subst g1 g2
        exact h5
      | succ i => exact q4 i x e (by simpa using g1) (by simpa using g2)
theorem oLc_st {S β : Type} (I : Nat → S → Prop) (En : S → List B) (enc : α → D) (encB : β → D) (R : α → β → Prop) (L : List α) (k : Nat) (s : S) (hI : I k s) (hit : it ρ = .ok (L.map enc, ρ1)) (hno : noOw ρ1 vs = true) (h0 : wipeB ρ1 vs = En s)
    (h : ∀ a ∈ L, ∀ j s, k ≤ j → j < k + L.length → I j s → ∃ as b s' ρ5, tg (enc a) = some as ∧ te (putB (En s) as) = .ok (encB b, ρ5) ∧ wipeB ρ5 vs = En s' ∧ I (j + 1) s' ∧ R a b) (hz : L.length ≤ sizeLine) :
    ∃ (bs : List β) (s' : S), oLc vs it tg bYes te ρ = .ok (bs.map encB, restB ρ1 (En s') vs) ∧ I (k + L.length) s' ∧ bs.length = L.length ∧ ∀ (i : Nat) (a : α) (b : β), L[i]? = some a → bs[i]? = some b → R a b := by
  obtain ⟨bs, s', q1, q2, q3, q4⟩ := lcGo_st (vs := vs) (tg := tg) (te := te) I En enc encB R L k s [] hI h (by simpa using hz)
  refine ⟨bs, s', ?_, q2, q3, q4⟩
  unfold oLc
  rw [hit, Rs.ok_bind]
  simp only [hno, if_true]
  rw [h0, q1]
  rfl
theorem forGo_rel {S : Type} {body : List B → Fl} (Rel : S → List B → Prop) (enc : α → D) (step : S → α → S) : ∀ (L : List α) (s : S) (ρ : List B), Rel s ρ →
    (∀ a ∈ L, ∀ s ρ, Rel s ρ → ∃ as ρ', tg (enc a) = some as ∧ body (putB ρ as) = .nx ρ' ∧ Rel (step s a) ρ') → ∃ ρ', forGo tg body (L.map enc) ρ = .nx ρ' ∧ Rel (L.foldl step s) ρ'
  | [], s, ρ, h, _ => ⟨ρ, by simp [forGo], h⟩
  | a :: L, s, ρ, h, hb => by
    obtain ⟨as, ρ', h1, h2, h3⟩ := hb a List.mem_cons_self s ρ h
    obtain ⟨ρ2, q1, q2⟩ := forGo_rel Rel enc step L (step s a) ρ' h3 fun b hb' => hb b (List.mem_cons_of_mem _ hb')
    refine ⟨ρ2, ?_, q2⟩
    rw [List.map_cons]
    unfold forGo
    rw [h1]
    simp only [h2]
    exact q1
end
theorem forGo_n {α : Type} {tg : D → Option (List (Nat × D))} {S : Type} {body : List B → Fl} (Rel : Nat → S → List B → Prop) (enc : α → D) (step : S → α → S) : ∀ (L : List α) (k : Nat) (s : S) (ρ : List B), Rel k s ρ →
    (∀ a ∈ L, ∀ j s ρ, j < k + L.length → Rel j s ρ → ∃ as ρ', tg (enc a) = some as ∧ body (putB ρ as) = .nx ρ' ∧ Rel (j + 1) (step s a) ρ') → ∃ ρ', forGo tg body (L.map enc) ρ = .nx ρ' ∧ Rel (k + L.length) (L.foldl step s) ρ'
  | [], k, s, ρ, h, _ => ⟨ρ, by simp [forGo], h⟩
  | a :: L, k, s, ρ, h, hb => by
    obtain ⟨as, ρ', h1, h2, h3⟩ := hb a List.mem_cons_self k s ρ (by simp) h
    obtain ⟨ρ2, q1, q2⟩ := forGo_n Rel enc step L (k + 1) (step s a) ρ' h3 fun b hb' j s ρ hj => hb b (List.mem_cons_of_mem _ hb') j s ρ (by simp; omega)
    refine ⟨ρ2, ?_, by rw [List.length_cons, show k + (L.length + 1) = k + 1 + L.length by omega]; exact q2⟩
    rw [List.map_cons]
    unfold forGo
    rw [h1]
    simp only [h2]
    exact q1
theorem zipD_map {α β : Type} (f : α → D) (g : β → D) : ∀ (L : List α) (M : List β), zipD (L.map f) (M.map g) = (L.zip M).map fun p => .tup [f p.1, g p.2]
  | [], M => by cases M <;> rfl
  | a :: L, [] => rfl
  | a :: L, b :: M => by
    show D.tup [f a, g b] :: zipD (L.map f) (M.map g) = _
    rw [zipD_map f g L M]
    rfl
theorem enumD_map {α : Type} (f : α → D) : ∀ (L : List α) (k : Nat), enumD k (L.map f) = (L.zipIdx k).map fun p => .tup [.int (p.2 : Int), f p.1]
  | [], k => rfl
  | a :: L, k => by
    show D.tup [.int (k : Int), f a] :: enumD (k + 1) (L.map f) = _
    rw [enumD_map f L (k + 1)]
    rfl
mutual
theorem eqv_refl : ∀ d : PyData, (PyData.canLay0 d = true) → PyData.eqv d d = true
  | .none, _ => rfl
  | .bool b, _ => by simp [PyData.eqv]
  | .int i, _ => by simp [PyData.eqv]
  | .str x, _ => by simp [PyData.eqv]
  | .list xs, h => by simp only [PyData.eqv]; exact eqvAll_refl xs (by simpa [PyData.canLay0] using h)
  | .tuple xs, h => by simp only [PyData.eqv]; exact eqvAll_refl xs (by simpa [PyData.canLay0] using h)
  | .dict _, h => by simp [PyData.canLay0] at h
theorem eqvAll_refl : ∀ ds : List PyData, (PyData.canLayAll0 ds = true) → PyData.eqvAll ds ds = true
  | [], _ => rfl
  | d :: ds, h => by
    simp only [PyData.canLayAll0, Bool.and_eq_true] at h
    simp [PyData.eqvAll, eqv_refl d h.1, eqvAll_refl ds h.2]
end
theorem call_of {n m : Nat} {g : List B → Fl} {args ρ' r : List B} {d : D} (hl : args.length = n) (hg : g (args ++ List.replicate m .un) = .rt d ρ') (hm : mergeB args ρ' = some r) : noX (fnSem n m g args) = .ok (d, r) := by
  unfold fnSem
  rw [if_pos hl, hg]
  simp only [hm, ofO_some, Rs.ok_bind, noX_ok]
theorem call_nx {n m : Nat} {g : List B → Fl} {args ρ' r : List B} (hl : args.length = n) (hg : g (args ++ List.replicate m .un) = .nx ρ') (hm : mergeB args ρ' = some r) : noX (fnSem n m g args) = .ok (.non, r) := by
  unfold fnSem
  rw [if_pos hl, hg]
  simp only [hm, ofO_some, Rs.ok_bind, noX_ok]
theorem seq_nx {F G : List B → Fl} {ρ ρ1 : List B} (h : F ρ = .nx ρ1) : sSeq F G ρ = G ρ1 := by unfold sSeq; rw [h]
mutual
def smallD : D → Bool
  | .non => true
  | .bl _ => true
  | .int i => decide (i.natAbs ≤ 999999999999)
  | .str _ => false
  | .tup ds => smallDs ds
  | .lst ds => smallDs ds
def smallDs : List D → Bool
  | [] => true
  | d :: ds => smallD d && smallDs ds
end
mutual
def nodes : D → Nat
  | .tup ds => nodesL ds + 1
  | .lst ds => nodesL ds + 1
  | _ => 1
def nodesL : List D → Nat
  | [] => 0
  | d :: ds => nodes d + nodesL ds
end
mutual
theorem small_w : ∀ d : D, smallD d = true → (dP d).canLay0 = true ∧ (dP d).intsShort 13 = true ∧ (dP d).showable = true ∧ (dP d).weight + 1 ≤ 42 * nodes d
  | .non, _ => ⟨rfl, rfl, rfl, by simp [dP, PyData.weight, nodes]⟩
  | .bl b, _ => ⟨rfl, rfl, rfl, by simp [dP, PyData.weight, nodes]⟩
  | .int i, h => by
    have h : i.natAbs ≤ 999999999999 := by simpa [smallD] using h
    have hl : i.natAbs.log2 < 40 := PySem.Flt.log2_lt_of (by decide) (by omega)
    refine ⟨rfl, ?_, ?_, ?_⟩
    · simp only [dP, PyData.intsShort]
      exact decide_eq_true (PyData.shown_int_le2 (by omega) (by omega))
    · simp only [dP, PyData.showable]
      exact decide_eq_true (by omega)
    · simp only [dP, PyData.weight, nodes]
      split <;> omega
  | .str x, h => by cases h
  | .tup ds, h => by
    obtain ⟨h1, h2, h3, h4⟩ := small_ws ds (by simpa [smallD] using h)
    exact ⟨by simpa [dP, PyData.canLay0] using h1, by simpa [dP, PyData.intsShort] using h2, by simpa [dP, PyData.showable] using h3, by simp only [dP, PyData.weight, nodes]; omega⟩
  | .lst ds, h => by
    obtain ⟨h1, h2, h3, h4⟩ := small_ws ds (by simpa [smallD] using h)
    exact ⟨by simpa [dP, PyData.canLay0] using h1, by simpa [dP, PyData.intsShort] using h2, by simpa [dP, PyData.showable] using h3, by simp only [dP, PyData.weight, nodes]; omega⟩
theorem small_ws : ∀ ds : List D, smallDs ds = true → PyData.canLayAll0 (dPs ds) = true ∧ PyData.intsShortAll 13 (dPs ds) = true ∧ PyData.showableAll (dPs ds) = true ∧ PyData.weightAll (dPs ds) ≤ 42 * nodesL ds
  | [], _ => ⟨rfl, rfl, rfl, by simp [dPs, PyData.weightAll, nodesL]⟩
  | d :: ds, h => by
    simp only [smallDs, Bool.and_eq_true] at h
    obtain ⟨h1, h2, h3, h4⟩ := small_w d h.1
    obtain ⟨g1, g2, g3, g4⟩ := small_ws ds h.2
    refine ⟨?_, ?_, ?_, ?_⟩
    · simp [dPs, PyData.canLayAll0, h1, g1]
    · simp [dPs, PyData.intsShortAll, h2, g2]
    · simp [dPs, PyData.showableAll, h3, g3]
    · simp only [dPs, PyData.weightAll, nodesL]; omega
end
theorem repr_small {d : D} (hs : smallD d = true) (hn : nodes d ≤ 20000) (hd : (dP d).depth < 60) : reprD d = some (.str (dP d).shown) := by
  obtain ⟨h1, h2, h3, h4⟩ := small_w d hs
  have hl : PyData.layable0 (dP d) = true := by
    unfold PyData.layable0
    simp only [h1, Bool.true_and, Bool.and_eq_true, decide_eq_true_eq]
    exact ⟨by omega, by omega⟩
  unfold reprD
  rw [if_pos ⟨h3, PyData.hasDict_of_layable hl, hd, Nat.le_trans (shown_le13 hl h2) (by rw [sizeLine_eq]; decide)⟩]
theorem repr_same {d : D} {s : D} (h : reprD d = some s) : dNe s s = some (.bl false) ∧ dEq s s = some (.bl true) := by
  unfold reprD at h
  split at h
  · cases h; simp
  · cases h
@[simp] theorem r_repr (d : D) : dRepr [d] = reprD d := rfl
theorem lay_ints (ns : List Int) : PyData.canLayAll0 (dPs (ns.map D.int)) = true ∧ PyData.depthAll (dPs (ns.map D.int)) = 0 := by
  induction ns with
  | nil => exact ⟨rfl, rfl⟩
  | cons n ns ih => simp [dPs, dP, PyData.canLayAll0, PyData.canLay0, PyData.depthAll, PyData.depth, ih]
theorem shaped_ints (ns : List Int) : SeqAt.shaped (dP (.lst (ns.map D.int))) = true := by
  simp [SeqAt.shaped, dP, PyData.canLay0, PyData.depth, lay_ints]
theorem ne_nil (ns : List Int) : dNe (.lst (ns.map D.int)) (.lst []) = some (.bl (!ns.isEmpty)) := by
  show (eqD _ _).map _ = _
  unfold eqD
  rw [if_pos ⟨shaped_ints ns, shaped_ints []⟩]
  cases ns with
  | nil => rfl
  | cons n ns => rfl
@[simp] theorem ne_tnil : dNe (.tup []) (.tup []) = some (.bl false) := by
  show (eqD (.tup []) (.tup [])).map (fun k => D.bl (!k)) = _
  unfold eqD
  rw [if_pos ⟨by decide, by decide⟩]
  rfl
theorem cut_take (ds : List D) {v : Int} (h : 0 ≤ v) : RT.cutD ds none (some v) = ds.take v.toNat := by
  unfold RT.cutD
  rw [HT.sIx_none]
  unfold HT.sIx
  simp only [if_neg (show ¬ v < 0 by omega), List.drop_zero, Nat.sub_zero]
  rcases Nat.le_total v.toNat ds.length with h | h
  · rw [Nat.min_eq_left h]
  · rw [Nat.min_eq_right h, List.take_of_length_le (Nat.le_refl _), List.take_of_length_le h]
theorem cut_drop (ds : List D) {v : Int} (h : 0 ≤ v) : RT.cutD ds (some v) none = ds.drop v.toNat := by
  unfold RT.cutD
  rw [HT.sIx_none]
  unfold HT.sIx
  simp only [if_neg (show ¬ v < 0 by omega)]
  rcases Nat.le_total v.toNat ds.length with h | h
  · rw [Nat.min_eq_left h, List.take_of_length_le (by rw [List.length_drop] <;> omega)]
  · rw [Nat.min_eq_right h, List.drop_length, List.drop_eq_nil_of_le h]
    simp
@[simp] theorem cut_t1 (ds : List D) : RT.cutD ds none (some 1) = ds.take 1 := cut_take ds (by decide)
@[simp] theorem cut_d1 (ds : List D) : RT.cutD ds (some 1) none = ds.drop 1 := cut_drop ds (by decide)
@[simp] theorem cut_l1 (ds : List D) : RT.cutD ds (some (-1)) none = ds.drop (ds.length - 1) := by
  unfold RT.cutD
  rw [HT.sIx_none]
  unfold HT.sIx
  simp only [if_pos (show (-1 : Int) < 0 by decide)]
  have e : ((-1 : Int) + (ds.length : Int)).toNat = ds.length - 1 := by omega
  rw [e, List.take_of_length_le (by rw [List.length_drop] <;> omega)]
theorem kit_NoneType_int : kitB "NoneType" "int" = some false := by decide +kernel
@[simp] theorem isi_NoneType_int : dIsi "int" .non = some (.bl false) := by show (kitB "NoneType" "int").map D.bl = _; rw [kit_NoneType_int]; rfl
theorem kit_bool_int : kitB "bool" "int" = some true := by decide +kernel
@[simp] theorem isi_bool_int (b : Bool) : dIsi "int" (.bl b) = some (.bl true) := by show (kitB "bool" "int").map D.bl = _; rw [kit_bool_int]; rfl
theorem kit_int_int : kitB "int" "int" = some true := by decide +kernel
@[simp] theorem isi_int_int (i : Int) : dIsi "int" (.int i) = some (.bl true) := by show (kitB "int" "int").map D.bl = _; rw [kit_int_int]; rfl
theorem kit_str_int : kitB "str" "int" = some false := by decide +kernel
@[simp] theorem isi_str_int (x : Str) : dIsi "int" (.str x) = some (.bl false) := by show (kitB "str" "int").map D.bl = _; rw [kit_str_int]; rfl
theorem kit_tuple_int : kitB "tuple" "int" = some false := by decide +kernel
@[simp] theorem isi_tuple_int (ds : List D) : dIsi "int" (.tup ds) = some (.bl false) := by show (kitB "tuple" "int").map D.bl = _; rw [kit_tuple_int]; rfl
theorem kit_list_int : kitB "list" "int" = some false := by decide +kernel
@[simp] theorem isi_list_int (ds : List D) : dIsi "int" (.lst ds) = some (.bl false) := by show (kitB "list" "int").map D.bl = _; rw [kit_list_int]; rfl
theorem kit_NoneType_bool : kitB "NoneType" "bool" = some false := by decide +kernel
@[simp] theorem isi_NoneType_bool : dIsi "bool" .non = some (.bl false) := by show (kitB "NoneType" "bool").map D.bl = _; rw [kit_NoneType_bool]; rfl
theorem kit_bool_bool : kitB "bool" "bool" = some true := by decide +kernel
@[simp] theorem isi_bool_bool (b : Bool) : dIsi "bool" (.bl b) = some (.bl true) := by show (kitB "bool" "bool").map D.bl = _; rw [kit_bool_bool]; rfl
theorem kit_int_bool : kitB "int" "bool" = some false := by decide +kernel
@[simp] theorem isi_int_bool (i : Int) : dIsi "bool" (.int i) = some (.bl false) := by show (kitB "int" "bool").map D.bl = _; rw [kit_int_bool]; rfl
theorem kit_str_bool : kitB "str" "bool" = some false := by decide +kernel
@[simp] theorem isi_str_bool (x : Str) : dIsi "bool" (.str x) = some (.bl false) := by show (kitB "str" "bool").map D.bl = _; rw [kit_str_bool]; rfl
theorem kit_tuple_bool : kitB "tuple" "bool" = some false := by decide +kernel
@[simp] theorem isi_tuple_bool (ds : List D) : dIsi "bool" (.tup ds) = some (.bl false) := by show (kitB "tuple" "bool").map D.bl = _; rw [kit_tuple_bool]; rfl
theorem kit_list_bool : kitB "list" "bool" = some false := by decide +kernel
@[simp] theorem isi_list_bool (ds : List D) : dIsi "bool" (.lst ds) = some (.bl false) := by show (kitB "list" "bool").map D.bl = _; rw [kit_list_bool]; rfl
theorem kit_NoneType_tuple : kitB "NoneType" "tuple" = some false := by decide +kernel
@[simp] theorem isi_NoneType_tuple : dIsi "tuple" .non = some (.bl false) := by show (kitB "NoneType" "tuple").map D.bl = _; rw [kit_NoneType_tuple]; rfl
theorem kit_bool_tuple : kitB "bool" "tuple" = some false := by decide +kernel
@[simp] theorem isi_bool_tuple (b : Bool) : dIsi "tuple" (.bl b) = some (.bl false) := by show (kitB "bool" "tuple").map D.bl = _; rw [kit_bool_tuple]; rfl
theorem kit_int_tuple : kitB "int" "tuple" = some false := by decide +kernel
@[simp] theorem isi_int_tuple (i : Int) : dIsi "tuple" (.int i) = some (.bl false) := by show (kitB "int" "tuple").map D.bl = _; rw [kit_int_tuple]; rfl
theorem kit_str_tuple : kitB "str" "tuple" = some false := by decide +kernel
@[simp] theorem isi_str_tuple (x : Str) : dIsi "tuple" (.str x) = some (.bl false) := by show (kitB "str" "tuple").map D.bl = _; rw [kit_str_tuple]; rfl
theorem kit_tuple_tuple : kitB "tuple" "tuple" = some true := by decide +kernel
@[simp] theorem isi_tuple_tuple (ds : List D) : dIsi "tuple" (.tup ds) = some (.bl true) := by show (kitB "tuple" "tuple").map D.bl = _; rw [kit_tuple_tuple]; rfl
theorem kit_list_tuple : kitB "list" "tuple" = some false := by decide +kernel
@[simp] theorem isi_list_tuple (ds : List D) : dIsi "tuple" (.lst ds) = some (.bl false) := by show (kitB "list" "tuple").map D.bl = _; rw [kit_list_tuple]; rfl
theorem kit_NoneType_list : kitB "NoneType" "list" = some false := by decide +kernel
@[simp] theorem isi_NoneType_list : dIsi "list" .non = some (.bl false) := by show (kitB "NoneType" "list").map D.bl = _; rw [kit_NoneType_list]; rfl
theorem kit_bool_list : kitB "bool" "list" = some false := by decide +kernel
@[simp] theorem isi_bool_list (b : Bool) : dIsi "list" (.bl b) = some (.bl false) := by show (kitB "bool" "list").map D.bl = _; rw [kit_bool_list]; rfl
theorem kit_int_list : kitB "int" "list" = some false := by decide +kernel
@[simp] theorem isi_int_list (i : Int) : dIsi "list" (.int i) = some (.bl false) := by show (kitB "int" "list").map D.bl = _; rw [kit_int_list]; rfl
theorem kit_str_list : kitB "str" "list" = some false := by decide +kernel
@[simp] theorem isi_str_list (x : Str) : dIsi "list" (.str x) = some (.bl false) := by show (kitB "str" "list").map D.bl = _; rw [kit_str_list]; rfl
theorem kit_tuple_list : kitB "tuple" "list" = some false := by decide +kernel
@[simp] theorem isi_tuple_list (ds : List D) : dIsi "list" (.tup ds) = some (.bl false) := by show (kitB "tuple" "list").map D.bl = _; rw [kit_tuple_list]; rfl
theorem kit_list_list : kitB "list" "list" = some true := by decide +kernel
@[simp] theorem isi_list_list (ds : List D) : dIsi "list" (.lst ds) = some (.bl true) := by show (kitB "list" "list").map D.bl = _; rw [kit_list_list]; rfl
theorem kit_NoneType_str : kitB "NoneType" "str" = some false := by decide +kernel
@[simp] theorem isi_NoneType_str : dIsi "str" .non = some (.bl false) := by show (kitB "NoneType" "str").map D.bl = _; rw [kit_NoneType_str]; rfl
theorem kit_bool_str : kitB "bool" "str" = some false := by decide +kernel
@[simp] theorem isi_bool_str (b : Bool) : dIsi "str" (.bl b) = some (.bl false) := by show (kitB "bool" "str").map D.bl = _; rw [kit_bool_str]; rfl
theorem kit_int_str : kitB "int" "str" = some false := by decide +kernel
@[simp] theorem isi_int_str (i : Int) : dIsi "str" (.int i) = some (.bl false) := by show (kitB "int" "str").map D.bl = _; rw [kit_int_str]; rfl
theorem kit_str_str : kitB "str" "str" = some true := by decide +kernel
@[simp] theorem isi_str_str (x : Str) : dIsi "str" (.str x) = some (.bl true) := by show (kitB "str" "str").map D.bl = _; rw [kit_str_str]; rfl
theorem kit_tuple_str : kitB "tuple" "str" = some false := by decide +kernel
@[simp] theorem isi_tuple_str (ds : List D) : dIsi "str" (.tup ds) = some (.bl false) := by show (kitB "tuple" "str").map D.bl = _; rw [kit_tuple_str]; rfl
theorem kit_list_str : kitB "list" "str" = some false := by decide +kernel
@[simp] theorem isi_list_str (ds : List D) : dIsi "str" (.lst ds) = some (.bl false) := by show (kitB "list" "str").map D.bl = _; rw [kit_list_str]; rfl
end RT
namespace RT
open PySem PySem.Spec PyProof.Rows L2
abbrev cp (x : Str) : List Nat := x.cps.toList
theorem cp_app (x y : Str) : cp (x ++ y) = cp x ++ cp y := by
  show (x.cps ++ y.cps).toList = _
  simp
theorem cp_of (x : String) : cp (Str.ofString x) = x.toList.map Char.toNat := by
  rw [Str.ofString_eq_toList]
mutual
def plainP : PyData → Bool
  | .none => true
  | .bool _ => true
  | .int _ => true
  | .str _ => false
  | .list xs => plainPs xs
  | .tuple xs => plainPs xs
  | .dict _ => false
def plainPs : List PyData → Bool
  | [] => true
  | x :: xs => plainP x && plainPs xs
end
def digitN (c : Nat) : Bool := (decide (48 ≤ c) && decide (c ≤ 57))
def numC (c : Nat) : Bool := digitN c || c == 45
theorem nat_chars (m : Nat) : (cp (Str.ofString (toString (m : Int)))).all digitN = true ∧ cp (Str.ofString (toString (m : Int))) ≠ [] ∧ PySem.NumText.digitsVal (cp (Str.ofString (toString (m : Int)))) = m := by
  have e : cp (Str.ofString (toString (m : Int))) = (Nat.toDigits 10 m).map Char.toNat := PySem.W.KIN.signs_num m
  rw [e]
  refine ⟨?_, ?_, PySem.W.KIN.val_back m⟩
  · rw [List.all_eq_true]
    intro c hc
    obtain ⟨ch, hch, rfl⟩ := List.mem_map.mp hc
    have r := digit_range (Nat.isDigit_of_mem_toDigits (by decide) (by decide) hch)
    unfold digitN
    simp only [Bool.and_eq_true, decide_eq_true_eq]
    exact r
  · have := PySem.toDigits_len_ge 10 m
    intro z
    have h : (Nat.toDigits 10 m) = [] := by simpa using z
    rw [h] at this
    simp at this
def intC (i : Int) : List Nat := if i < 0 then 45 :: cp (Str.ofString (toString ((i.natAbs : Nat) : Int))) else cp (Str.ofString (toString ((i.natAbs : Nat) : Int)))
theorem shown_int (i : Int) : cp (PyData.shown (.int i)) = intC i := by
  show cp (Str.ofString (toString i)) = _
  unfold intC
  split
  · rename_i h
    have e : (0 : Int) - i = ((i.natAbs : Nat) : Int) := by omega
    rw [cp_of, toString_neg h, e, cp_of, String.toList_append, List.map_append]
    rfl
  · rename_i h
    have e : i = ((i.natAbs : Nat) : Int) := by omega
    rw [← e]
theorem intC_num (i : Int) : (intC i).all numC = true ∧ ∃ c r, intC i = c :: r ∧ numC c = true := by
  obtain ⟨h1, h2, _⟩ := nat_chars i.natAbs
  have h1' : (cp (Str.ofString (toString ((i.natAbs : Nat) : Int)))).all numC = true := by
    rw [List.all_eq_true] at h1 ⊢
    intro c hc
    unfold numC
    rw [h1 c hc]
    rfl
  have all : (intC i).all numC = true := by
    unfold intC
    split
    · rw [List.all_cons, h1']; rfl
    · exact h1'
  refine ⟨all, ?_⟩
  cases h : intC i with
  | nil =>
    exfalso
    unfold intC at h
    split at h
    · cases h
    · exact h2 h
  | cons c r =>
    rw [h, List.all_cons, Bool.and_eq_true] at all
    exact ⟨c, r, rfl, all.1⟩
theorem intC_inj {i j : Int} (h : intC i = intC j) : i = j := by
  obtain ⟨a1, a2, a3⟩ := nat_chars i.natAbs
  obtain ⟨b1, b2, b3⟩ := nat_chars j.natAbs
  have hd : ∀ {l : List Nat} {r : List Nat}, l.all digitN = true → l = 45 :: r → False := fun {l r} hl e => by
    rw [e, List.all_cons] at hl
    have : digitN 45 = false := by decide
    rw [this] at hl
    cases hl
  unfold intC at h
  split at h <;> split at h
  · have e : cp (Str.ofString (toString ((i.natAbs : Nat) : Int))) = cp (Str.ofString (toString ((j.natAbs : Nat) : Int))) := (List.cons.inj h).2
    rw [e, b3] at a3
    omega
  · exact (hd b1 h.symm).elim
  · exact (hd a1 h).elim
  · rw [h, b3] at a3
    omega
def Stop (r : List Nat) : Prop := ∀ c t, r = c :: t → numC c = false
theorem span_num {l r : List Nat} (h : l.all numC = true) (hr : Stop r) : (l ++ r).takeWhile numC = l := by
  induction l with
  | nil =>
    cases r with
    | nil => rfl
    | cons c t => rw [List.nil_append, List.takeWhile_cons, hr c t rfl]; rfl
  | cons c l ih =>
    rw [List.all_cons, Bool.and_eq_true] at h
    rw [List.cons_append, List.takeWhile_cons, h.1]
    simp [ih h.2]
theorem int_split {i j : Int} {r s : List Nat} (hr : Stop r) (hs : Stop s) (h : intC i ++ r = intC j ++ s) : i = j ∧ r = s := by
  have e1 := span_num (intC_num i).1 hr
  have e2 := span_num (intC_num j).1 hs
  rw [h, e2] at e1
  have e := intC_inj e1
  subst e
  exact ⟨rfl, List.append_cancel_left h⟩
def sepC : List (List Nat) → List Nat
  | [] => []
  | [x] => x
  | x :: y :: r => x ++ 44 :: 32 :: sepC (y :: r)
theorem from_C : ∀ (ts : List Str) (k : Nat) (acc : Str), 0 < k → cp (textFrom k acc ts) = cp acc ++ (ts.map fun t => 44 :: 32 :: cp t).flatten
  | [], k, acc, _ => by simp [textFrom]
  | t :: ts, k, acc, hk => by
    unfold textFrom
    rw [from_C ts (k + 1) _ (by omega), cp_app, cp_app, if_pos hk]
    have e : cp ((", " : String) : Str) = [44, 32] := by show cp (Str.ofString ", ") = _; rw [cp_of]; rfl
    rw [e]
    simp
theorem sep_flat : ∀ (x : List Nat) (ts : List (List Nat)), sepC (x :: ts) = x ++ (ts.map fun t => 44 :: 32 :: t).flatten
  | x, [] => by simp [sepC]
  | x, y :: r => by
    unfold sepC
    rw [sep_flat y r]
    simp
theorem list_C (ts : List Str) : cp (listText ts) = 91 :: (sepC (ts.map cp) ++ [93]) := by
  unfold listText
  have b : cp (("]" : String) : Str) = [93] := by show cp (Str.ofString "]") = _; rw [cp_of]; rfl
  have a : cp (("[" : String) : Str) = [91] := by show cp (Str.ofString "[") = _; rw [cp_of]; rfl
  have n : cp (("" : String) : Str) = [] := by show cp (Str.ofString "") = _; rw [cp_of]; rfl
  rw [cp_app, b]
  cases ts with
  | nil =>
    show cp (textFrom 0 "[" []) ++ [93] = _
    unfold textFrom
    rw [a]
    rfl
  | cons t ts =>
    unfold textFrom
    rw [from_C ts 1 _ (by decide), cp_app, cp_app, a, if_neg (by decide), n, List.map_cons, sep_flat]
    simp [Function.comp_def]
theorem join_C : ∀ ts : List Str, cp (Str.join ", " ts) = sepC (ts.map cp)
  | [] => rfl
  | [x] => by simp [Str.join, sepC]
  | x :: y :: r => by
    have e : cp ((", " : String) : Str) = [44, 32] := by show cp (Str.ofString ", ") = _; rw [cp_of]; rfl
    show cp (x ++ ", " ++ Str.join ", " (y :: r)) = _
    rw [cp_app, cp_app, e, join_C (y :: r)]
    simp [sepC]
theorem tup_C (ts : List Str) : cp (tupleText ts) = 40 :: (sepC (ts.map cp) ++ (if ts.length == 1 then [44, 41] else [41])) := by
  unfold tupleText
  have a : cp (("(" : String) : Str) = [40] := by show cp (Str.ofString "(") = _; rw [cp_of]; rfl
  have b : cp ((if ts.length == 1 then ",)" else ")" : String) : Str) = (if ts.length == 1 then [44, 41] else [41]) := by
    show cp (Str.ofString _) = _
    rw [cp_of]
    split <;> rfl
  show cp (("(" : Str) ++ Str.join ", " ts ++ _) = _
  rw [cp_app, cp_app, a, join_C, b]
  rfl
mutual
def sC : PyData → List Nat
  | .none => [78, 111, 110, 101]
  | .bool b => if b then [84, 114, 117, 101] else [70, 97, 108, 115, 101]
  | .int i => intC i
  | .list xs => 91 :: (sepC (sCs xs) ++ [93])
  | .tuple xs => 40 :: (sepC (sCs xs) ++ (if xs.length == 1 then [44, 41] else [41]))
  | _ => []
def sCs : List PyData → List (List Nat)
  | [] => []
  | x :: xs => sC x :: sCs xs
end
theorem sCs_len : ∀ xs : List PyData, (sCs xs).length = xs.length
  | [] => rfl
  | x :: xs => by simp [sCs, sCs_len xs]
theorem shownAll_len : ∀ xs : List PyData, (PyData.shownAll xs).length = xs.length
  | [] => rfl
  | x :: xs => by simp [PyData.shownAll, shownAll_len xs]
mutual
theorem shown_C : ∀ d : PyData, plainP d = true → cp d.shown = sC d
  | .none, _ => by
    show cp (Str.ofString "None") = _
    rw [cp_of]
    rfl
  | .bool b, _ => by
    cases b with
    | true =>
      show cp (Str.ofString "True") = _
      rw [cp_of]
      rfl
    | false =>
      show cp (Str.ofString "False") = _
      rw [cp_of]
      rfl
  | .int i, _ => shown_int i
  | .str x, h => by cases h
  | .list xs, h => by
    show cp (listText (PyData.shownAll xs)) = _
    rw [list_C, shown_Cs xs (by simpa [plainP] using h)]
    rfl
  | .tuple xs, h => by
    show cp (tupleText (PyData.shownAll xs)) = _
    rw [tup_C, shown_Cs xs (by simpa [plainP] using h), shownAll_len]
    rfl
  | .dict _, h => by cases h
theorem shown_Cs : ∀ xs : List PyData, plainPs xs = true → (PyData.shownAll xs).map cp = sCs xs
  | [], _ => rfl
  | x :: xs, h => by
    simp only [plainPs, Bool.and_eq_true] at h
    show cp x.shown :: (PyData.shownAll xs).map cp = _
    rw [shown_C x h.1, shown_Cs xs h.2]
    rfl
end
def hd : PyData → Nat
  | .none => 78
  | .bool b => if b then 84 else 70
  | .list _ => 91
  | .tuple _ => 40
  | _ => 0
theorem sC_head (d : PyData) (h : plainP d = true) : ∃ c r, sC d = c :: r ∧ c ≠ 93 ∧ c ≠ 41 ∧ c ≠ 44 ∧ ((∃ i, d = .int i ∧ numC c = true) ∨ (numC c = false ∧ c = hd d)) := by
  cases d with
  | none => exact ⟨_, _, rfl, by decide, by decide, by decide, .inr ⟨by decide, rfl⟩⟩
  | bool b => cases b <;> exact ⟨_, _, rfl, by decide, by decide, by decide, .inr ⟨by decide, rfl⟩⟩
  | int i =>
    obtain ⟨_, c, r, e, hc⟩ := intC_num i
    refine ⟨c, r, e, ?_, ?_, ?_, .inl ⟨i, rfl, hc⟩⟩
    · rintro rfl; revert hc; decide
    · rintro rfl; revert hc; decide
    · rintro rfl; revert hc; decide
  | str x => cases h
  | list xs => exact ⟨_, _, rfl, by decide, by decide, by decide, .inr ⟨by decide, rfl⟩⟩
  | tuple xs => exact ⟨_, _, rfl, by decide, by decide, by decide, .inr ⟨by decide, rfl⟩⟩
  | dict x => cases h
theorem stop_of {c : Nat} {r : List Nat} (h : numC c = false) : Stop (c :: r) := fun c' t e => by cases e; exact h
def Inj (d : PyData) : Prop := ∀ (e : PyData) (r s : List Nat), plainP d = true → plainP e = true → Stop r → Stop s → sC d ++ r = sC e ++ s → d = e ∧ r = s
theorem seps (k : Nat) (hk : k = 93 ∨ k = 41) : ∀ (xs ys : List PyData), (∀ x ∈ xs, Inj x) → plainPs xs = true → plainPs ys = true → xs ≠ [] → ys ≠ [] → ∀ (t u r s : List Nat), (t = k :: r ∨ t = 44 :: k :: r) → (u = k :: s ∨ u = 44 :: k :: s) →
    sepC (sCs xs) ++ t = sepC (sCs ys) ++ u → xs = ys ∧ t = u
  | [], _, _, _, _, h, _, _, _, _, _, _, _, _ => absurd rfl h
  | _ :: _, [], _, _, _, _, h, _, _, _, _, _, _, _ => absurd rfl h
  | x :: xs, y :: ys, ih, px, py, _, _, t, u, r, s, ht, hu, h => by
    simp only [plainPs, Bool.and_eq_true] at px py
    have nk : numC k = false := by rcases hk with rfl | rfl <;> decide
    have n44 : numC 44 = false := by decide
    have st : Stop t := by rcases ht with e | e <;> rw [e] <;> exact stop_of (by assumption)
    have su : Stop u := by rcases hu with e | e <;> rw [e] <;> exact stop_of (by assumption)
    have k32 : k ≠ 32 ∧ k ≠ 44 := by rcases hk with rfl | rfl <;> decide
    cases xs with
    | nil =>
      cases ys with
      | nil =>
        have h : sC x ++ t = sC y ++ u := h
        obtain ⟨e1, e2⟩ := ih x List.mem_cons_self y t u px.1 py.1 st su h
        exact ⟨by rw [e1], e2⟩
      | cons y2 ys =>
        have h : sC x ++ t = (sC y ++ 44 :: 32 :: sepC (sCs (y2 :: ys))) ++ u := h
        rw [List.append_assoc] at h
        obtain ⟨_, e2⟩ := ih x List.mem_cons_self y t _ px.1 py.1 st (stop_of n44) h
        exfalso
        rcases ht with e | e <;> rw [e] at e2
        · exact k32.2 (List.cons.inj e2).1
        · exact k32.1 (List.cons.inj (List.cons.inj e2).2).1
    | cons x2 xs =>
      cases ys with
      | nil =>
        have h : (sC x ++ 44 :: 32 :: sepC (sCs (x2 :: xs))) ++ t = sC y ++ u := h
        rw [List.append_assoc] at h
        obtain ⟨_, e2⟩ := ih x List.mem_cons_self y _ u px.1 py.1 (stop_of n44) su h
        exfalso
        rcases hu with e | e <;> rw [e] at e2
        · exact k32.2 (List.cons.inj e2).1.symm
        · exact k32.1 (List.cons.inj (List.cons.inj e2).2).1.symm
      | cons y2 ys =>
        have h : (sC x ++ 44 :: 32 :: sepC (sCs (x2 :: xs))) ++ t = (sC y ++ 44 :: 32 :: sepC (sCs (y2 :: ys))) ++ u := h
        rw [List.append_assoc, List.append_assoc] at h
        obtain ⟨e1, e2⟩ := ih x List.mem_cons_self y _ _ px.1 py.1 (stop_of n44) (stop_of n44) h
        have e3 := (List.cons.inj (List.cons.inj e2).2).2
        obtain ⟨e4, e5⟩ := seps k hk (x2 :: xs) (y2 :: ys) (fun z hz => ih z (List.mem_cons_of_mem _ hz)) px.2 py.2 (by simp) (by simp) t u r s ht hu e3
        exact ⟨by rw [e1, e4], e5⟩
theorem sep_head : ∀ (xs : List PyData), plainPs xs = true → xs ≠ [] → ∃ c r, sepC (sCs xs) = c :: r ∧ c ≠ 93 ∧ c ≠ 41 ∧ c ≠ 44
  | [], _, h => absurd rfl h
  | x :: xs, h, _ => by
    simp only [plainPs, Bool.and_eq_true] at h
    obtain ⟨c, r, e, h1, h2, h3, _⟩ := sC_head x h.1
    have : sepC (sCs (x :: xs)) = sC x ++ ((sCs xs).map fun t => 44 :: 32 :: t).flatten := by
      show sepC (sC x :: sCs xs) = _
      exact sep_flat _ _
    rw [this, e]
    exact ⟨c, _, rfl, h1, h2, h3⟩
theorem plain_mem : ∀ {xs : List PyData} {x : PyData}, plainPs xs = true → x ∈ xs → plainP x = true
  | y :: ys, x, h, hm => by
    simp only [plainPs, Bool.and_eq_true] at h
    rcases List.mem_cons.mp hm with e | e
    · rw [e]; exact h.1
    · exact plain_mem h.2 e
theorem inj_list {xs : List PyData} (ih : ∀ x ∈ xs, Inj x) : Inj (.list xs) := by
  intro e r s pd pe hr hs h
  have px : plainPs xs = true := by simpa [plainP] using pd
  obtain ⟨c, t, ec, _, _, _, hc⟩ := sC_head e pe
  have h0 : (91 : Nat) = c := by rw [ec] at h; exact (List.cons.inj h).1
  subst h0
  rcases hc with ⟨i, _, hi⟩ | ⟨_, hc⟩
  · exact absurd hi (by decide)
  cases e with
  | list ys =>
    have py : plainPs ys = true := by simpa [plainP] using pe
    have h : 91 :: ((sepC (sCs xs) ++ [93]) ++ r) = 91 :: ((sepC (sCs ys) ++ [93]) ++ s) := h
    have h := (List.cons.inj h).2
    rw [List.append_assoc, List.append_assoc] at h
    by_cases hx : xs = []
    · subst hx
      by_cases hy : ys = []
      · subst hy
        exact ⟨rfl, (List.cons.inj h).2⟩
      · obtain ⟨c, t, e, h1, _⟩ := sep_head ys py hy
        rw [e] at h
        exact absurd (List.cons.inj h).1.symm h1
    · by_cases hy : ys = []
      · subst hy
        obtain ⟨c, t, e, h1, _⟩ := sep_head xs px hx
        rw [e] at h
        exact absurd (List.cons.inj h).1 h1
      · obtain ⟨e1, e2⟩ := seps 93 (.inl rfl) xs ys ih px py hx hy _ _ r s (.inl rfl) (.inl rfl) h
        exact ⟨by rw [e1], (List.cons.inj e2).2⟩
  | bool b => cases b <;> exact absurd hc (by decide)
  | none => exact absurd hc (by decide)
  | tuple ys => exact absurd (show (91 : Nat) = 40 from hc) (by decide)
  | int i => exact absurd (show (91 : Nat) = 0 from hc) (by decide)
  | str x => cases pe
  | dict x => cases pe
def tupEnd (n : Nat) (r : List Nat) : List Nat := (if n == 1 then [44, 41] else [41]) ++ r
theorem tupEnd_or (n : Nat) (r : List Nat) : tupEnd n r = 41 :: r ∨ tupEnd n r = 44 :: 41 :: r := by
  unfold tupEnd
  split
  · exact .inr rfl
  · exact .inl rfl
theorem inj_tuple {xs : List PyData} (ih : ∀ x ∈ xs, Inj x) : Inj (.tuple xs) := by
  intro e r s pd pe hr hs h
  have px : plainPs xs = true := by simpa [plainP] using pd
  obtain ⟨c, t, ec, _, _, _, hc⟩ := sC_head e pe
  have h0 : (40 : Nat) = c := by rw [ec] at h; exact (List.cons.inj h).1
  subst h0
  rcases hc with ⟨i, _, hi⟩ | ⟨_, hc⟩
  · exact absurd hi (by decide)
  cases e with
  | tuple ys =>
    have py : plainPs ys = true := by simpa [plainP] using pe
    have h : 40 :: ((sepC (sCs xs) ++ (if xs.length == 1 then [44, 41] else [41])) ++ r) = 40 :: ((sepC (sCs ys) ++ (if ys.length == 1 then [44, 41] else [41])) ++ s) := h
    have h := (List.cons.inj h).2
    rw [List.append_assoc, List.append_assoc] at h
    have h : sepC (sCs xs) ++ tupEnd xs.length r = sepC (sCs ys) ++ tupEnd ys.length s := h
    by_cases hx : xs = []
    · subst hx
      by_cases hy : ys = []
      · subst hy
        exact ⟨rfl, (List.cons.inj (show 41 :: r = 41 :: s from h)).2⟩
      · obtain ⟨c, t, e, _, h1, _⟩ := sep_head ys py hy
        rw [e] at h
        exact absurd (List.cons.inj (show 41 :: r = c :: (t ++ tupEnd ys.length s) from h)).1.symm h1
    · by_cases hy : ys = []
      · subst hy
        obtain ⟨c, t, e, _, h1, _⟩ := sep_head xs px hx
        rw [e] at h
        exact absurd (List.cons.inj (show c :: (t ++ tupEnd xs.length r) = 41 :: s from h)).1 h1
      · obtain ⟨e1, e2⟩ := seps 41 (.inr rfl) xs ys ih px py hx hy _ _ r s (tupEnd_or _ _) (tupEnd_or _ _) h
        subst e1
        unfold tupEnd at e2
        exact ⟨rfl, List.append_cancel_left e2⟩
  | bool b => cases b <;> exact absurd hc (by decide)
  | none => exact absurd hc (by decide)
  | list ys => exact absurd (show (40 : Nat) = 91 from hc) (by decide)
  | int i => exact absurd (show (40 : Nat) = 0 from hc) (by decide)
  | str x => cases pe
  | dict x => cases pe
theorem inj_int (i : Int) : Inj (.int i) := by
  intro e r s pd pe hr hs h
  cases e with
  | int j =>
    obtain ⟨e1, e2⟩ := int_split hr hs (show intC i ++ r = intC j ++ s from h)
    exact ⟨by rw [e1], e2⟩
  | str x => cases pe
  | dict x => cases pe
  | _ =>
    obtain ⟨_, c, t, e, hc⟩ := intC_num i
    have h : intC i ++ r = _ := h
    rw [e] at h
    obtain ⟨c2, t2, e2, _, _, _, h2⟩ := sC_head _ pe
    rw [e2] at h
    have hcc : c = c2 := (List.cons.inj h).1
    rcases h2 with ⟨j, hj, _⟩ | ⟨h2, _⟩
    · cases hj
    · rw [hcc, h2] at hc; cases hc
theorem inj_none : Inj .none := by
  intro e r s pd pe hr hs h
  obtain ⟨c, t, ec, _, _, _, hc⟩ := sC_head e pe
  have h0 : (78 : Nat) = c := by rw [ec] at h; exact (List.cons.inj h).1
  subst h0
  rcases hc with ⟨i, _, hi⟩ | ⟨_, hc⟩
  · exact absurd hi (by decide)
  cases e with
  | none => exact ⟨rfl, by simpa [sC] using h⟩
  | bool b => cases b <;> exact absurd hc (by decide)
  | list ys => exact absurd (show (78 : Nat) = 91 from hc) (by decide)
  | tuple ys => exact absurd (show (78 : Nat) = 40 from hc) (by decide)
  | int i => exact absurd (show (78 : Nat) = 0 from hc) (by decide)
  | str x => cases pe
  | dict x => cases pe
theorem inj_bool (b : Bool) : Inj (.bool b) := by
  intro e r s pd pe hr hs h
  obtain ⟨c, t, ec, _, _, _, hc⟩ := sC_head e pe
  have h0 : (if b then (84 : Nat) else 70) = c := by
    rw [ec] at h
    cases b <;> exact (List.cons.inj h).1
  subst h0
  rcases hc with ⟨i, _, hi⟩ | ⟨_, hc⟩
  · cases b <;> exact absurd hi (by decide)
  cases e with
  | bool b' =>
    cases b <;> cases b' <;> first
      | exact ⟨rfl, by simpa [sC] using h⟩
      | exact absurd hc (by decide)
  | none => cases b <;> exact absurd hc (by decide)
  | list ys => cases b <;> exact absurd (show (_ : Nat) = 91 from hc) (by decide)
  | tuple ys => cases b <;> exact absurd (show (_ : Nat) = 40 from hc) (by decide)
  | int i => cases b <;> exact absurd (show (_ : Nat) = 0 from hc) (by decide)
  | str x => cases pe
  | dict x => cases pe
mutual
theorem inj_all : ∀ d : PyData, plainP d = true → Inj d
  | .none, _ => inj_none
  | .bool b, _ => inj_bool b
  | .int i, _ => inj_int i
  | .str x, h => by cases h
  | .list xs, h => inj_list (inj_alls xs (by simpa [plainP] using h))
  | .tuple xs, h => inj_tuple (inj_alls xs (by simpa [plainP] using h))
  | .dict x, h => by cases h
theorem inj_alls : ∀ xs : List PyData, plainPs xs = true → ∀ x ∈ xs, Inj x
  | [], _, x, h => nomatch h
  | y :: ys, h, x, hm => by
    simp only [plainPs, Bool.and_eq_true] at h
    rcases List.mem_cons.mp hm with e | e
    · rw [e]; exact inj_all y h.1
    · exact inj_alls ys h.2 x e
end
theorem shown_inj {d e : PyData} (pd : plainP d = true) (pe : plainP e = true) (h : d.shown = e.shown) : d = e := by
  have c : cp d.shown = cp e.shown := by rw [h]
  rw [shown_C d pd, shown_C e pe] at c
  have st : Stop [] := fun c t e => by cases e
  exact (inj_all d pd e [] [] pd pe st st (by simpa using c)).1
mutual
theorem dP_inj : ∀ (d e : D), dP d = dP e → d = e
  | .non, e, h => by cases e <;> simp [dP] at h <;> rfl
  | .bl b, e, h => by cases e <;> simp [dP] at h <;> rw [h]
  | .int i, e, h => by cases e <;> simp [dP] at h <;> rw [h]
  | .str x, e, h => by cases e <;> simp [dP] at h <;> rw [h]
  | .tup xs, e, h => by
    cases e <;> simp [dP] at h
    rw [dPs_inj _ _ h]
  | .lst xs, e, h => by
    cases e <;> simp [dP] at h
    rw [dPs_inj _ _ h]
theorem dPs_inj : ∀ (xs ys : List D), dPs xs = dPs ys → xs = ys
  | [], [], _ => rfl
  | [], _ :: _, h => by simp [dPs] at h
  | _ :: _, [], h => by simp [dPs] at h
  | x :: xs, y :: ys, h => by
    simp only [dPs, List.cons.injEq] at h
    rw [dP_inj x y h.1, dPs_inj xs ys h.2]
end
mutual
theorem small_plain : ∀ d : D, smallD d = true → plainP (dP d) = true
  | .non, _ => rfl
  | .bl _, _ => rfl
  | .int _, _ => rfl
  | .str _, h => by cases h
  | .tup xs, h => by
    have := small_plains xs (by simpa [smallD] using h)
    simpa [dP, plainP] using this
  | .lst xs, h => by
    have := small_plains xs (by simpa [smallD] using h)
    simpa [dP, plainP] using this
theorem small_plains : ∀ xs : List D, smallDs xs = true → plainPs (dPs xs) = true
  | [], _ => rfl
  | x :: xs, h => by
    simp only [smallDs, Bool.and_eq_true] at h
    simp [dPs, plainPs, small_plain x h.1, small_plains xs h.2]
end
theorem repr_inj {d e : D} (hd : smallD d = true) (he : smallD e = true) (h : (dP d).shown = (dP e).shown) : d = e := dP_inj d e (shown_inj (small_plain d hd) (small_plain e he) h)
end RT
namespace My
open PySem PySem.Spec PyProof.Rows L2 RT
def topS (i : Nat) : Stmt := PySem.Challenge.pw_readintime_k06_whole_plans_or_full_stret.main.body.getD i (.Pass ⟨0, 0, 0, 0⟩)
abbrev s__law_cells : Stmt := topS 52
def g__law_cells : List B → Fl :=
  (sRet (eO (oRg1 (eBlt dMaxB (aCons (eC (.int 1)) (aCons (eBlt dMinB (aCons (eSlot 1) (aCons (eBlt dLen (aCons (eSlot 0) aNil)) aNil))) aNil))))))
def F__law_cells : FS := fun a => noX (fnSem 2 0 g__law_cells a)
theorem sc__law_cells : FnScope ["script", "limit"] ["script", "limit"] (defScope s__law_cells) := ⟨rfl, rfl, rfl, by decide +kernel, rfl, by decide +kernel, by decide +kernel⟩
theorem ok__law_cells {P : Program} {w : World} {K : PySem.W.Frag} {mg : PySem.Str → Option Value} {base : Heap} {f : Addr} {fd : FuncData} (m_len : mg "len" = none) (m_list : mg "list" = none) (m_max : mg "max" = none) (m_min : mg "min" = none) (m_range : mg "range" = none)
    (F : FunD K "_law_cells" "_law_cells" (defArgs s__law_cells) (defBody s__law_cells) (defScope s__law_cells) [] [] f fd) : FnG P w K mg base CX0 (0 + 1) f fd ["script", "limit"] (spF K mg F__law_cells) := by
  have nd := sc__law_cells.nd
  exact FnG.of_body F sc__law_cells rfl rfl fun cdv A outer s H E hr hgd =>
    (sss_one (ss_ret (ev_o (eo_listRg1 rfl rfl m_list rfl m_range (ev_blt (w1 := false) (cr_maxB rfl) cd_maxB (av_cons ev_int (av_cons (ev_blt (w1 := false) (cr_minB rfl) cd_minB (av_cons (ev_slot 1) (av_cons (ev_blt (w1 := false) cr_len cd_len (av_cons (ev_slot 0) av_nil) rfl m_len) av_nil)) rfl m_min) av_nil)) rfl m_max)))))
abbrev s__law_pot : Stmt := topS 49
def t__law_pot_1 : List B → Fl := (sSet 2 (eIf (bV (eOp dLt (eSlot 1) (eBlt dLen (aCons (eSlot 0) aNil)))) (eOp dIx (eSlot 0) (eSlot 1)) (eOp dAdd (eOp dAdd (eOp dMod (eBlt dInt (aCons (eBlt dSumA (aCons (eSl (eSlot 0) oNo (oAt (eC (.int 1)))) aNil)) aNil)) (eC (.int 1000003))) (eOp dMulA (eC (.int 3393)) (eSlot 1))) (eC (.int 7985)))))
def t__law_pot_2 : List B → Fl := (sSet 3 (eOp dMulA (eOp dMod (eBlt dInt (aCons (eBlt dAbs (aCons (eSlot 2) aNil)) aNil)) (eOp dPow (eOp dPow (eC (.int 10)) (eC (.int 60))) (eC (.int 5)))) (eBlt dInt (aCons (eOp dGe (eBlt dAbs (aCons (eSlot 2) aNil)) (eOp dPow (eC (.int 10)) (eC (.int 18)))) aNil))))
def t__law_pot_3 : List B → Fl := (sSet 4 (eOp dMod (eBlt dInt (aCons (eSlot 2) aNil)) (eC (.int 2305843009213693951))))
def t__law_pot_4 : List B → Fl := (sRetO (oLst (aCons (eSlot 3) (aCons (eOp dMod (eBlt dInt (aCons (eOp dAdd (eOp dAdd (eOp dMulA (eSlot 4) (eC (.int 92209))) (eOp dMulA (eOp dMulA (eC (.int 13395)) (eSlot 1)) (eSlot 1))) (eC (.int 2793))) aNil)) (eC (.int 2305843009213693921))) (aCons (eC (.int 0)) aNil)))))
def g__law_pot : List B → Fl :=
  (sSeq t__law_pot_1 (sSeq t__law_pot_2 (sSeq t__law_pot_3 t__law_pot_4)))
def F__law_pot : FSO := fnSemO 2 3 g__law_pot
theorem sc__law_pot : FnScope ["script", "place", "cell", "own", "small"] ["script", "place"] (defScope s__law_pot) := ⟨rfl, rfl, rfl, by decide +kernel, rfl, by decide +kernel, by decide +kernel⟩
theorem ok__law_pot {P : Program} {w : World} {K : PySem.W.Frag} {mg : PySem.Str → Option Value} {base : Heap} {f : Addr} {fd : FuncData} (m_abs : mg "abs" = none) (m_int : mg "int" = none) (m_len : mg "len" = none) (m_sum : mg "sum" = none)
    (F : FunD K "_law_pot" "_law_pot" (defArgs s__law_pot) (defBody s__law_pot) (defScope s__law_pot) [] [] f fd) : FnG P w K mg base CX0 (0 + 1) f fd ["script", "place"] (spFO K F__law_pot) := by
  have nd := sc__law_pot.nd
  exact FnG.of_bodyO F sc__law_pot rfl rfl fun cdv A outer s H E hr hgd =>
    (sss_cons (ss_set 2 (ev_if (tv_cmp (w1 := false) (w2 := false) op_lt od_lt (ev_slot 1) (ev_blt (w1 := false) cr_len cd_len (av_cons (ev_slot 0) av_nil) rfl m_len) (nomark _)) (ev_ix (w1 := false) (w2 := false) (ev_slot 0) (ev_slot 1)) (ev_op (w1 := false) (w2 := false) op_addA od_add (ev_op (w1 := false) (w2 := false) op_addA od_add (ev_op (w1 := false) (w2 := false) op_mod od_mod (ev_ty (w1 := false) call_int1 cd_int (av_cons (ev_blt (w1 := false) (cr_sumA rfl) cd_sumA (av_cons (ev_sl (w1 := false) (ev_slot 0) ov_no (ov_at (w := false) ev_int)) av_nil) rfl m_sum) av_nil) rfl m_int) ev_int) (ev_op (w1 := false) (w2 := false) op_mulA od_mulA ev_int (ev_slot 1))) ev_int)) nd) (sss_cons (ss_set 3 (ev_op (w1 := false) (w2 := false) op_mulA od_mulA (ev_op (w1 := false) (w2 := false) op_mod od_mod (ev_ty (w1 := false) call_int1 cd_int (av_cons (ev_blt (w1 := false) call_abs cd_abs (av_cons (ev_slot 2) av_nil) rfl m_abs) av_nil) rfl m_int) (ev_op (w1 := false) (w2 := false) op_powW od_pow (ev_op (w1 := false) (w2 := false) op_powW od_pow ev_int ev_int) ev_int)) (ev_ty (w1 := false) call_int1 cd_int (av_cons (ev_cmp (w1 := false) (w2 := false) op_ge od_ge (ev_blt (w1 := false) call_abs cd_abs (av_cons (ev_slot 2) av_nil) rfl m_abs) (ev_op (w1 := false) (w2 := false) op_powW od_pow ev_int ev_int) (nomark _)) av_nil) rfl m_int)) nd) (sss_cons (ss_set 4 (ev_op (w1 := false) (w2 := false) op_mod od_mod (ev_ty (w1 := false) call_int1 cd_int (av_cons (ev_slot 2) av_nil) rfl m_int) ev_int) nd) (sss_one (ss_retO (eo_lst (av_cons (ev_slot 3) (av_cons (ev_op (w1 := false) (w2 := false) op_mod od_mod (ev_ty (w1 := false) call_int1 cd_int (av_cons (ev_op (w1 := false) (w2 := false) op_addA od_add (ev_op (w1 := false) (w2 := false) op_addA od_add (ev_op (w1 := false) (w2 := false) op_mulA od_mulA (ev_slot 4) ev_int) (ev_op (w1 := false) (w2 := false) op_mulA od_mulA (ev_op (w1 := false) (w2 := false) op_mulA od_mulA ev_int (ev_slot 1)) (ev_slot 1))) ev_int) av_nil) rfl m_int) ev_int) (av_cons ev_int av_nil)))))))))
abbrev s__law_take : Stmt := topS 50
def t__law_take_1 : List B → Fl := (sIf (bV (eOp dGt (eOp dIx (eSlotW 0) (eC (.int 0))) (eC (.int 0)))) (sSeq (sSet 2 (eOp dMod (eBlt dInt (aCons (eOp dIx (eSlotW 0) (eC (.int 0))) aNil)) (eSlot 1))) (sSeq (sPut 0 (eC (.int 0)) (eOp dDiv (eOp dIx (eSlotW 0) (eC (.int 0))) (eSlot 1))) (sRet (eSlot 2)))) sNx)
def t__law_take_2 : List B → Fl := (sPut 0 (eC (.int 2)) (eOp dAdd (eOp dIx (eSlotW 0) (eC (.int 2))) (eC (.int 1))))
def t__law_take_3 : List B → Fl := (sSet 3 (eOp dIx (eO (oLst (aCons (eC (.int 2147483647)) (aCons (eC (.int 2147483629)) (aCons (eC (.int 2147483587)) (aCons (eC (.int 2147483579)) aNil)))))) (eOp dMod (eBlt dInt (aCons (eOp dIx (eSlotW 0) (eC (.int 2))) aNil)) (eC (.int 4)))))
def t__law_take_4 : List B → Fl := (sSet 4 (eOp dMod (eBlt dInt (aCons (eOp dPow (eBlt dInt (aCons (eOp dAdd (eOp dAdd (eOp dIx (eSlotW 0) (eC (.int 1))) (eOp dMulA (eOp dMulA (eC (.int 132849)) (eOp dIx (eSlotW 0) (eC (.int 2)))) (eOp dIx (eSlotW 0) (eC (.int 2))))) (eC (.int 3493))) aNil)) (eC (.int 3))) aNil)) (eSlot 3)))
def t__law_take_5 : List B → Fl := (sRet (eOp dMod (eBlt dInt (aCons (eOp dDiv (eOp dMulA (eSlot 4) (eOp dAdd (eOp dMod (eBlt dInt (aCons (eSlot 4) aNil)) (eC (.int 10007))) (eOp dMulA (eC (.int 2695)) (eOp dIx (eSlotW 0) (eC (.int 2)))))) (eC (.int 307))) aNil)) (eSlot 1)))
def g__law_take : List B → Fl :=
  (sSeq t__law_take_1 (sSeq t__law_take_2 (sSeq t__law_take_3 (sSeq t__law_take_4 t__law_take_5))))
def F__law_take : FS := fun a => noX (fnSem 2 3 g__law_take a)
theorem sc__law_take : FnScope ["pot", "upto", "digit", "prime", "blend"] ["pot", "upto"] (defScope s__law_take) := ⟨rfl, rfl, rfl, by decide +kernel, rfl, by decide +kernel, by decide +kernel⟩
theorem ok__law_take {P : Program} {w : World} {K : PySem.W.Frag} {mg : PySem.Str → Option Value} {base : Heap} {f : Addr} {fd : FuncData} (m_int : mg "int" = none)
    (F : FunD K "_law_take" "_law_take" (defArgs s__law_take) (defBody s__law_take) (defScope s__law_take) [] [] f fd) : FnG P w K mg base CX0 (0 + 1) f fd ["pot", "upto"] (spF K mg F__law_take) := by
  have nd := sc__law_take.nd
  exact FnG.of_body F sc__law_take rfl rfl fun cdv A outer s H E hr hgd =>
    (sss_cons (ss_if (tv_cmp (w1 := false) (w2 := false) op_gt od_gt (ev_ix (w1 := true) (w2 := false) (ev_slotW 0) ev_int) ev_int (nomark _)) (sss_cons (ss_set 2 (ev_op (w1 := false) (w2 := false) op_mod od_mod (ev_ty (w1 := false) call_int1 cd_int (av_cons (ev_ix (w1 := true) (w2 := false) (ev_slotW 0) ev_int) av_nil) rfl m_int) (ev_slot 1)) nd) (sss_cons (ss_put 0 ev_int (ev_op (w1 := false) (w2 := false) op_fdivW od_div (ev_ix (w1 := true) (w2 := false) (ev_slotW 0) ev_int) (ev_slot 1))) (sss_one (ss_ret (ev_slot 2))))) sss_nil) (sss_cons (ss_put 0 ev_int (ev_op (w1 := false) (w2 := false) op_addA od_add (ev_ix (w1 := true) (w2 := false) (ev_slotW 0) ev_int) ev_int)) (sss_cons (ss_set 3 (ev_ix (w1 := false) (w2 := false) (ev_o (eo_lst (av_cons ev_int (av_cons ev_int (av_cons ev_int (av_cons ev_int av_nil)))))) (ev_op (w1 := false) (w2 := false) op_mod od_mod (ev_ty (w1 := false) call_int1 cd_int (av_cons (ev_ix (w1 := true) (w2 := false) (ev_slotW 0) ev_int) av_nil) rfl m_int) ev_int)) nd) (sss_cons (ss_set 4 (ev_op (w1 := false) (w2 := false) op_mod od_mod (ev_ty (w1 := false) call_int1 cd_int (av_cons (ev_op (w1 := false) (w2 := false) op_powW od_pow (ev_ty (w1 := false) call_int1 cd_int (av_cons (ev_op (w1 := false) (w2 := false) op_addA od_add (ev_op (w1 := false) (w2 := false) op_addA od_add (ev_ix (w1 := true) (w2 := false) (ev_slotW 0) ev_int) (ev_op (w1 := false) (w2 := false) op_mulA od_mulA (ev_op (w1 := false) (w2 := false) op_mulA od_mulA ev_int (ev_ix (w1 := true) (w2 := false) (ev_slotW 0) ev_int)) (ev_ix (w1 := true) (w2 := false) (ev_slotW 0) ev_int))) ev_int) av_nil) rfl m_int) ev_int) av_nil) rfl m_int) (ev_slot 3)) nd) (sss_one (ss_ret (ev_op (w1 := false) (w2 := false) op_mod od_mod (ev_ty (w1 := false) call_int1 cd_int (av_cons (ev_op (w1 := false) (w2 := false) op_fdivW od_div (ev_op (w1 := false) (w2 := false) op_mulA od_mulA (ev_slot 4) (ev_op (w1 := false) (w2 := false) op_addA od_add (ev_op (w1 := false) (w2 := false) op_mod od_mod (ev_ty (w1 := false) call_int1 cd_int (av_cons (ev_slot 4) av_nil) rfl m_int) ev_int) (ev_op (w1 := false) (w2 := false) op_mulA od_mulA ev_int (ev_ix (w1 := true) (w2 := false) (ev_slotW 0) ev_int)))) ev_int) av_nil) rfl m_int) (ev_slot 1))))))))
abbrev s__law_film : Stmt := topS 53
def c__law_film_1 : AS := (oLc [2] (iRange2 (eC (.int 1)) (eSlot 1)) (gN 2) (bV (eOp dEq (eCallB 0 F__law_take (aCons (eC (.int 6)) aNil)) (eC (.int 0)))) (eBlt dInt (aCons (eSlot 2) aNil)))
def t__law_film_1 : List B → Fl := (sSet 1 (eOp dAdd (eC (.int 4)) (eCallB 0 F__law_take (aCons (eOp dSub (eSlot 1) (eC (.int 3))) aNil))))
def t__law_film_2 : List B → Fl := (sRet (eTup (aCons (eBlt dInt (aCons (eSlot 1) aNil)) (aCons (eBlt dTuple (aCons (eO c__law_film_1) aNil)) aNil))))
def g__law_film : List B → Fl :=
  (sSeq t__law_film_1 t__law_film_2)
def F__law_film : FS := fun a => noX (fnSem 2 1 g__law_film a)
theorem sc__law_film : FnScope ["pot", "length", "cut"] ["pot", "length"] (defScope s__law_film) := ⟨rfl, rfl, rfl, by decide +kernel, rfl, by decide +kernel, by decide +kernel⟩
theorem ok__law_film {P : Program} {w : World} {K : PySem.W.Frag} {mg : PySem.Str → Option Value} {base : Heap} {f : Addr} {fd : FuncData} (m_int : mg "int" = none) (m_range : mg "range" = none) (m_tuple : mg "tuple" = none) (C__law_take : Cal P w K mg base 1 "_law_take" 2 F__law_take)
    (F : FunD K "_law_film" "_law_film" (defArgs s__law_film) (defBody s__law_film) (defScope s__law_film) [] [] f fd) : FnG P w K mg base CX0 (1 + 1) f fd ["pot", "length"] (spF K mg F__law_film) := by
  have nd := sc__law_film.nd
  exact FnG.of_body F sc__law_film rfl rfl fun cdv A outer s H E hr hgd =>
    (sss_cons (ss_set 1 (ev_op (w1 := false) (w2 := false) op_addA od_add ev_int (ev_callB 0 (C__law_take.mono (by decide)) hr hgd (av_cons (ev_op (w1 := false) (w2 := false) op_sub od_sub (ev_slot 1) ev_int) av_nil))) nd) (sss_one (ss_ret (ev_tup (av_cons (ev_ty (w1 := false) call_int1 cd_int (av_cons (ev_slot 1) av_nil) rfl m_int) (av_cons (ev_ty (w1 := false) call_tuple_of cd_tuple (av_cons (ev_o (eo_lc [("cut", 2)] rfl nd (iv_range2 rfl m_range ev_int (ev_slot 1)) (blkOk_by (by kernel_rfl)) rfl (fun _ _ _ _ _ => (gv_name 2 nd)) (fun _ _ _ _ _ => (tsv_one (tv_cmp (w1 := false) (w2 := false) (op_eqA hr.units) od_eq (ev_callB 0 (C__law_take.mono (by decide)) hr hgd (av_cons ev_int av_nil)) ev_int (nomark _)))) (fun _ _ _ _ _ => (ev_ty (w1 := false) call_int1 cd_int (av_cons (ev_slot 2) av_nil) rfl m_int)))) av_nil) rfl m_tuple) av_nil))))))
abbrev s__law_rules : Stmt := topS 55
def g__law_rules : List B → Fl :=
  (sRet (eTup (aCons (eBlt dInt (aCons (eCallB 0 F__law_take (aCons (eC (.int 3)) aNil)) aNil)) (aCons (eBlt dInt (aCons (eCallB 0 F__law_take (aCons (eC (.int 5)) aNil)) aNil)) (aCons (eBlt dInt (aCons (eCallB 0 F__law_take (aCons (eC (.int 4)) aNil)) aNil)) (aCons (eBlt dInt (aCons (eCallB 0 F__law_take (aCons (eC (.int 3)) aNil)) aNil)) aNil))))))
def F__law_rules : FS := fun a => noX (fnSem 1 0 g__law_rules a)
theorem sc__law_rules : FnScope ["pot"] ["pot"] (defScope s__law_rules) := ⟨rfl, rfl, rfl, by decide +kernel, rfl, by decide +kernel, by decide +kernel⟩
theorem ok__law_rules {P : Program} {w : World} {K : PySem.W.Frag} {mg : PySem.Str → Option Value} {base : Heap} {f : Addr} {fd : FuncData} (m_int : mg "int" = none) (C__law_take : Cal P w K mg base 1 "_law_take" 2 F__law_take)
    (F : FunD K "_law_rules" "_law_rules" (defArgs s__law_rules) (defBody s__law_rules) (defScope s__law_rules) [] [] f fd) : FnG P w K mg base CX0 (1 + 1) f fd ["pot"] (spF K mg F__law_rules) := by
  have nd := sc__law_rules.nd
  exact FnG.of_body F sc__law_rules rfl rfl fun cdv A outer s H E hr hgd =>
    (sss_one (ss_ret (ev_tup (av_cons (ev_ty (w1 := false) call_int1 cd_int (av_cons (ev_callB 0 (C__law_take.mono (by decide)) hr hgd (av_cons ev_int av_nil)) av_nil) rfl m_int) (av_cons (ev_ty (w1 := false) call_int1 cd_int (av_cons (ev_callB 0 (C__law_take.mono (by decide)) hr hgd (av_cons ev_int av_nil)) av_nil) rfl m_int) (av_cons (ev_ty (w1 := false) call_int1 cd_int (av_cons (ev_callB 0 (C__law_take.mono (by decide)) hr hgd (av_cons ev_int av_nil)) av_nil) rfl m_int) (av_cons (ev_ty (w1 := false) call_int1 cd_int (av_cons (ev_callB 0 (C__law_take.mono (by decide)) hr hgd (av_cons ev_int av_nil)) av_nil) rfl m_int) av_nil)))))))
abbrev s__law_lines : Stmt := topS 54
def c__law_lines_1 : AS := (oLc [4] (iRange1 (eCallB 0 F__law_take (aCons (eOp dAdd (eSlot 2) (eC (.int 1))) aNil))) (gN 4) bYes (eBlt dInt (aCons (eCallB 0 F__law_take (aCons (eSlot 1) aNil)) aNil)))
def c__law_lines_2 : AS := (oLc [4] (iRange1 (eCallB 0 F__law_take (aCons (eOp dAdd (eSlot 2) (eC (.int 1))) aNil))) (gN 4) bYes (eBlt dInt (aCons (eCallB 0 F__law_take (aCons (eSlot 1) aNil)) aNil)))
def c__law_lines_3 : AS := (oLc [5] (iSeq (eSlot 3)) (gN 5) bYes (eTup (aCons (eSlot 5) (aCons (eBlt dInt (aCons (eOp dAdd (eOp dAdd (eSlot 5) (eC (.int 1))) (eCallB 0 F__law_take (aCons (eBlt dMinB (aCons (eC (.int 5)) (aCons (eOp dSub (eSlot 1) (eSlot 5)) aNil))) aNil))) aNil)) (aCons (eBlt dInt (aCons (eOp dAdd (eC (.int 1)) (eCallB 0 F__law_take (aCons (eC (.int 5)) aNil))) aNil)) aNil)))))
def t__law_lines_1 : List B → Fl := (sSet 3 (eO (oBlt dSortedA (aCons (eO c__law_lines_2) aNil))))
def t__law_lines_2 : List B → Fl := (sRet (eBlt dTuple (aCons (eO c__law_lines_3) aNil)))
def g__law_lines : List B → Fl :=
  (sSeq t__law_lines_1 t__law_lines_2)
def F__law_lines : FS := fun a => noX (fnSem 3 3 g__law_lines a)
theorem sc__law_lines : FnScope ["pot", "length", "many", "starts", "lap", "start"] ["pot", "length", "many"] (defScope s__law_lines) := ⟨rfl, rfl, rfl, by decide +kernel, rfl, by decide +kernel, by decide +kernel⟩
theorem ok__law_lines {P : Program} {w : World} {K : PySem.W.Frag} {mg : PySem.Str → Option Value} {base : Heap} {f : Addr} {fd : FuncData} (m_int : mg "int" = none) (m_min : mg "min" = none) (m_range : mg "range" = none) (m_sorted : mg "sorted" = none) (m_tuple : mg "tuple" = none) (C__law_take : Cal P w K mg base 1 "_law_take" 2 F__law_take)
    (F : FunD K "_law_lines" "_law_lines" (defArgs s__law_lines) (defBody s__law_lines) (defScope s__law_lines) [] [] f fd) : FnG P w K mg base CX0 (1 + 1) f fd ["pot", "length", "many"] (spF K mg F__law_lines) := by
  have nd := sc__law_lines.nd
  exact FnG.of_body F sc__law_lines rfl rfl fun cdv A outer s H E hr hgd =>
    (sss_cons (ss_set 3 (ev_o (eo_blt (w1 := false) cr_sortedA co_sortedA (av_cons (ev_o (eo_lc [("lap", 4)] rfl nd (iv_range1 rfl m_range (ev_callB 0 (C__law_take.mono (by decide)) hr hgd (av_cons (ev_op (w1 := false) (w2 := false) op_addA od_add (ev_slot 2) ev_int) av_nil))) (blkOk_by (by kernel_rfl)) rfl (fun _ _ _ _ _ => (gv_name 4 nd)) (fun _ _ _ _ _ => tsv_nil) (fun _ _ _ _ _ => (ev_ty (w1 := false) call_int1 cd_int (av_cons (ev_callB 0 (C__law_take.mono (by decide)) hr hgd (av_cons (ev_slot 1) av_nil)) av_nil) rfl m_int)))) av_nil) rfl m_sorted)) nd) (sss_one (ss_ret (ev_ty (w1 := false) call_tuple_of cd_tuple (av_cons (ev_o (eo_lc [("start", 5)] rfl nd (iv_seq (w := false) (ev_slot 3)) (blkOk_by (by kernel_rfl)) rfl (fun _ _ _ _ _ => (gv_name 5 nd)) (fun _ _ _ _ _ => tsv_nil) (fun _ _ _ _ _ => (ev_tup (av_cons (ev_slot 5) (av_cons (ev_ty (w1 := false) call_int1 cd_int (av_cons (ev_op (w1 := false) (w2 := false) op_addA od_add (ev_op (w1 := false) (w2 := false) op_addA od_add (ev_slot 5) ev_int) (ev_callB 0 (C__law_take.mono (by decide)) hr hgd (av_cons (ev_blt (w1 := false) (cr_minB rfl) cd_minB (av_cons ev_int (av_cons (ev_op (w1 := false) (w2 := false) op_sub od_sub (ev_slot 1) (ev_slot 5)) av_nil)) rfl m_min) av_nil))) av_nil) rfl m_int) (av_cons (ev_ty (w1 := false) call_int1 cd_int (av_cons (ev_op (w1 := false) (w2 := false) op_addA od_add ev_int (ev_callB 0 (C__law_take.mono (by decide)) hr hgd (av_cons ev_int av_nil))) av_nil) rfl m_int) av_nil))))))) av_nil) rfl m_tuple))))
abbrev s_is_integer : Stmt := topS 7
def g_is_integer : List B → Fl :=
  (sRet (eAnd (eUn (dIsi "int") (eSlot 0)) (eNot (eUn (dIsi "bool") (eSlot 0)))))
def F_is_integer : FS := fun a => noX (fnSem 1 0 g_is_integer a)
theorem sc_is_integer : FnScope ["value"] ["value"] (defScope s_is_integer) := ⟨rfl, rfl, rfl, by decide +kernel, rfl, by decide +kernel, by decide +kernel⟩
theorem ok_is_integer {P : Program} {w : World} {K : PySem.W.Frag} {mg : PySem.Str → Option Value} {base : Heap} {f : Addr} {fd : FuncData} (m_bool : mg "bool" = none) (m_int : mg "int" = none) (m_isinstance : mg "isinstance" = none)
    (F : FunD K "is_integer" "is_integer" (defArgs s_is_integer) (defBody s_is_integer) (defScope s_is_integer) [] [] f fd) : FnG P w K mg base CX0 (0 + 1) f fd ["value"] (spF K mg F_is_integer) := by
  have nd := sc_is_integer.nd
  exact FnG.of_body F sc_is_integer rfl rfl fun cdv A outer s H E hr hgd =>
    (sss_one (ss_ret (ev_and (w1 := false) (ev_isi (w1 := false) "int" (ev_slot 0) rfl m_isinstance rfl m_int) (ev_one (ev_not (w1 := false) (ev_isi (w1 := false) "bool" (ev_slot 0) rfl m_isinstance rfl m_bool))))))
abbrev s_is_between : Stmt := topS 8
def g_is_between : List B → Fl :=
  (sRet (eAnd (eCall F_is_integer (aCons (eSlot 0) aNil)) (eChain dLe dLe (eSlot 1) (eSlot 0) (eSlot 2))))
def F_is_between : FS := fun a => noX (fnSem 3 0 g_is_between a)
theorem sc_is_between : FnScope ["value", "low", "high"] ["value", "low", "high"] (defScope s_is_between) := ⟨rfl, rfl, rfl, by decide +kernel, rfl, by decide +kernel, by decide +kernel⟩
theorem ok_is_between {P : Program} {w : World} {K : PySem.W.Frag} {mg : PySem.Str → Option Value} {base : Heap} {f : Addr} {fd : FuncData} (C_is_integer : Cal P w K mg base 1 "is_integer" 1 F_is_integer)
    (F : FunD K "is_between" "is_between" (defArgs s_is_between) (defBody s_is_between) (defScope s_is_between) [] [] f fd) : FnG P w K mg base CX0 (1 + 1) f fd ["value", "low", "high"] (spF K mg F_is_between) := by
  have nd := sc_is_between.nd
  exact FnG.of_body F sc_is_between rfl rfl fun cdv A outer s H E hr hgd =>
    (sss_one (ss_ret (ev_and (w1 := false) (ev_call (C_is_integer.mono (by decide)) hr hgd (av_cons (ev_slot 0) av_nil)) (ev_one (ev_chain (w2 := false) op_le od_le op_le od_le (ev_slot 1) (ev_slot 0) (ev_slot 2))))))
abbrev s_are_between : Stmt := topS 9
def c_are_between_1 : AS := (oLc [3] (iSeq (eSlot 0)) (gN 3) bYes (eCall F_is_between (aCons (eSlot 3) (aCons (eSlot 1) (aCons (eSlot 2) aNil)))))
def g_are_between : List B → Fl :=
  (sRet (eAnd (eUn (dIsi "tuple") (eSlot 0)) (eBlt dAll (aCons (eO c_are_between_1) aNil))))
def F_are_between : FS := fun a => noX (fnSem 3 1 g_are_between a)
theorem sc_are_between : FnScope ["value", "low", "high", "one"] ["value", "low", "high"] (defScope s_are_between) := ⟨rfl, rfl, rfl, by decide +kernel, rfl, by decide +kernel, by decide +kernel⟩
theorem ok_are_between {P : Program} {w : World} {K : PySem.W.Frag} {mg : PySem.Str → Option Value} {base : Heap} {f : Addr} {fd : FuncData} (m_all : mg "all" = none) (m_isinstance : mg "isinstance" = none) (m_tuple : mg "tuple" = none) (C_is_between : Cal P w K mg base 2 "is_between" 3 F_is_between)
    (F : FunD K "are_between" "are_between" (defArgs s_are_between) (defBody s_are_between) (defScope s_are_between) [] [] f fd) : FnG P w K mg base CX0 (2 + 1) f fd ["value", "low", "high"] (spF K mg F_are_between) := by
  have nd := sc_are_between.nd
  exact FnG.of_body F sc_are_between rfl rfl fun cdv A outer s H E hr hgd =>
    (sss_one (ss_ret (ev_and (w1 := false) (ev_isi (w1 := false) "tuple" (ev_slot 0) rfl m_isinstance rfl m_tuple) (ev_one (ev_blt (w1 := false) (cr_all rfl) cd_all (av_cons (ev_o (eo_lc [("one", 3)] rfl nd (iv_seq (w := false) (ev_slot 0)) (blkOk_by (by kernel_rfl)) rfl (fun _ _ _ _ _ => (gv_name 3 nd)) (fun _ _ _ _ _ => tsv_nil) (fun _ _ _ _ _ => (ev_call (C_is_between.mono (by decide)) hr hgd (av_cons (ev_slot 3) (av_cons (ev_slot 1) (av_cons (ev_slot 2) av_nil))))))) av_nil) rfl m_all)))))
abbrev s_is_ascending : Stmt := topS 10
def c_is_ascending_1 : AS := (oLc [1, 2] (iZip' (eSlot 0) (eSl (eSlot 0) (oAt (eC (.int 1))) oNo)) (gT (gsCons (gN 1) (gsCons (gN 2) gsNil))) bYes (eOp dLt (eSlot 1) (eSlot 2)))
def g_is_ascending : List B → Fl :=
  (sRet (eBlt dAll (aCons (eO c_is_ascending_1) aNil)))
def F_is_ascending : FS := fun a => noX (fnSem 1 2 g_is_ascending a)
theorem sc_is_ascending : FnScope ["items", "one", "other"] ["items"] (defScope s_is_ascending) := ⟨rfl, rfl, rfl, by decide +kernel, rfl, by decide +kernel, by decide +kernel⟩
theorem ok_is_ascending {P : Program} {w : World} {K : PySem.W.Frag} {mg : PySem.Str → Option Value} {base : Heap} {f : Addr} {fd : FuncData} (m_all : mg "all" = none) (m_zip : mg "zip" = none)
    (F : FunD K "is_ascending" "is_ascending" (defArgs s_is_ascending) (defBody s_is_ascending) (defScope s_is_ascending) [] [] f fd) : FnG P w K mg base CX0 (0 + 1) f fd ["items"] (spF K mg F_is_ascending) := by
  have nd := sc_is_ascending.nd
  exact FnG.of_body F sc_is_ascending rfl rfl fun cdv A outer s H E hr hgd =>
    (sss_one (ss_ret (ev_blt (w1 := false) (cr_all rfl) cd_all (av_cons (ev_o (eo_lc [("one", 1), ("other", 2)] rfl nd (iv_zip (w1 := false) (w2 := false) rfl m_zip (ev_slot 0) (ev_sl (w1 := false) (ev_slot 0) (ov_at (w := false) ev_int) ov_no)) (blkOk_by (by kernel_rfl)) rfl (fun _ _ _ _ _ => (gv_tup rfl (gvs_cons (gv_name 1 nd) (gvs_cons (gv_name 2 nd) gvs_nil)) (gsCons_len (gsCons_len gsNil_len)))) (fun _ _ _ _ _ => tsv_nil) (fun _ _ _ _ _ => (ev_cmp (w1 := false) (w2 := false) op_lt od_lt (ev_slot 1) (ev_slot 2) (nomark _))))) av_nil) rfl m_all)))
abbrev s_is_film : Stmt := topS 17
def t_is_film_1 : List B → Fl := (sIf (bOr (bNot (bV (eUn (dIsi "tuple") (eSlot 0)))) (bOr (bV (eOp dNe (eBlt dLen (aCons (eSlot 0) aNil)) (eC (.int 2)))) (bNot (bV (eCall F_is_between (aCons (eOp dIx (eSlot 0) (eC (.int 0))) (aCons (eC (.int 1)) (aCons (eC (.int 400)) aNil)))))))) (sRet (eC (.bl false))) sNx)
def t_is_film_2 : List B → Fl := (sRet (eAnd (eCall F_are_between (aCons (eOp dIx (eSlot 0) (eC (.int 1))) (aCons (eC (.int 1)) (aCons (eOp dSub (eOp dIx (eSlot 0) (eC (.int 0))) (eC (.int 1))) aNil)))) (eCall F_is_ascending (aCons (eOp dIx (eSlot 0) (eC (.int 1))) aNil))))
def g_is_film : List B → Fl :=
  (sSeq t_is_film_1 t_is_film_2)
def F_is_film : FS := fun a => noX (fnSem 1 0 g_is_film a)
theorem sc_is_film : FnScope ["value"] ["value"] (defScope s_is_film) := ⟨rfl, rfl, rfl, by decide +kernel, rfl, by decide +kernel, by decide +kernel⟩
theorem ok_is_film {P : Program} {w : World} {K : PySem.W.Frag} {mg : PySem.Str → Option Value} {base : Heap} {f : Addr} {fd : FuncData} (m_isinstance : mg "isinstance" = none) (m_len : mg "len" = none) (m_tuple : mg "tuple" = none) (g_MOST_TICK : ∃ t, mg "MOST_TICK" = some (.int 400 t)) (C_is_between : Cal P w K mg base 2 "is_between" 3 F_is_between) (C_are_between : Cal P w K mg base 3 "are_between" 3 F_are_between) (C_is_ascending : Cal P w K mg base 1 "is_ascending" 1 F_is_ascending)
    (F : FunD K "is_film" "is_film" (defArgs s_is_film) (defBody s_is_film) (defScope s_is_film) [] [] f fd) : FnG P w K mg base CX0 (3 + 1) f fd ["value"] (spF K mg F_is_film) := by
  have nd := sc_is_film.nd
  exact FnG.of_body F sc_is_film rfl rfl fun cdv A outer s H E hr hgd =>
    (sss_cons (ss_if (TW.tv (tw_or (tv_not (tv_val (w := false) (ev_isi (w1 := false) "tuple" (ev_slot 0) rfl m_isinstance rfl m_tuple))) (tw_or (tv_cmp (w1 := false) (w2 := false) (op_neA hr.units) od_ne (ev_blt (w1 := false) cr_len cd_len (av_cons (ev_slot 0) av_nil) rfl m_len) ev_int (nomark _)) (tw_or1 (tv_not (tv_val (w := false) (ev_call (C_is_between.mono (by decide)) hr hgd (av_cons (ev_ix (w1 := false) (w2 := false) (ev_slot 0) ev_int) (av_cons ev_int (av_cons (ev_gint rfl g_MOST_TICK) av_nil)))))))))) (sss_one (ss_ret ev_bl)) sss_nil) (sss_one (ss_ret (ev_and (w1 := false) (ev_call (C_are_between.mono (by decide)) hr hgd (av_cons (ev_ix (w1 := false) (w2 := false) (ev_slot 0) ev_int) (av_cons ev_int (av_cons (ev_op (w1 := false) (w2 := false) op_sub od_sub (ev_ix (w1 := false) (w2 := false) (ev_slot 0) ev_int) ev_int) av_nil)))) (ev_one (ev_call (C_is_ascending.mono (by decide)) hr hgd (av_cons (ev_ix (w1 := false) (w2 := false) (ev_slot 0) ev_int) av_nil)))))))
abbrev s_check_film : Stmt := topS 18
def g_check_film : List B → Fl :=
  (sIf (bNot (bV (eCall F_is_film (aCons (eSlot 0) aNil)))) (fun _ => .bad) sNx)
def F_check_film : FS := fun a => noX (fnSem 1 0 g_check_film a)
theorem sc_check_film : FnScope ["value"] ["value"] (defScope s_check_film) := ⟨rfl, rfl, rfl, by decide +kernel, rfl, by decide +kernel, by decide +kernel⟩
theorem ok_check_film {P : Program} {w : World} {K : PySem.W.Frag} {mg : PySem.Str → Option Value} {base : Heap} {f : Addr} {fd : FuncData} (C_is_film : Cal P w K mg base 4 "is_film" 1 F_is_film)
    (F : FunD K "check_film" "check_film" (defArgs s_check_film) (defBody s_check_film) (defScope s_check_film) [] [] f fd) : FnG P w K mg base CX0 (4 + 1) f fd ["value"] (spF K mg F_check_film) := by
  have nd := sc_check_film.nd
  exact FnG.of_body F sc_check_film rfl rfl fun cdv A outer s H E hr hgd =>
    (sss_one (ss_if (tv_not (tv_val (w := false) (ev_call (C_is_film.mono (by decide)) hr hgd (av_cons (ev_slot 0) av_nil)))) (sss_one ss_never) sss_nil))
abbrev s_is_line : Stmt := topS 19
def t_is_line_1 : List B → Fl := (sIf (bOr (bNot (bV (eCall F_are_between (aCons (eSlot 1) (aCons (eC (.int 0)) (aCons (eC (.int 400)) aNil)))))) (bV (eOp dNe (eBlt dLen (aCons (eSlot 1) aNil)) (eC (.int 3))))) (sRet (eC (.bl false))) sNx)
def t_is_line_2 : List B → Fl := (sRet (eAnd (eChain dLt dLe (eOp dIx (eSlot 1) (eC (.int 0))) (eOp dIx (eSlot 1) (eC (.int 1))) (eSlot 0)) (eOp dGt (eOp dIx (eSlot 1) (eC (.int 2))) (eC (.int 0)))))
def g_is_line : List B → Fl :=
  (sSeq t_is_line_1 t_is_line_2)
def F_is_line : FS := fun a => noX (fnSem 2 0 g_is_line a)
theorem sc_is_line : FnScope ["length", "value"] ["length", "value"] (defScope s_is_line) := ⟨rfl, rfl, rfl, by decide +kernel, rfl, by decide +kernel, by decide +kernel⟩
theorem ok_is_line {P : Program} {w : World} {K : PySem.W.Frag} {mg : PySem.Str → Option Value} {base : Heap} {f : Addr} {fd : FuncData} (m_len : mg "len" = none) (g_MOST_TICK : ∃ t, mg "MOST_TICK" = some (.int 400 t)) (g_THREE : ∃ t, mg "THREE" = some (.int 3 t)) (C_are_between : Cal P w K mg base 3 "are_between" 3 F_are_between)
    (F : FunD K "is_line" "is_line" (defArgs s_is_line) (defBody s_is_line) (defScope s_is_line) [] [] f fd) : FnG P w K mg base CX0 (3 + 1) f fd ["length", "value"] (spF K mg F_is_line) := by
  have nd := sc_is_line.nd
  exact FnG.of_body F sc_is_line rfl rfl fun cdv A outer s H E hr hgd =>
    (sss_cons (ss_if (TW.tv (tw_or (tv_not (tv_val (w := false) (ev_call (C_are_between.mono (by decide)) hr hgd (av_cons (ev_slot 1) (av_cons ev_int (av_cons (ev_gint rfl g_MOST_TICK) av_nil)))))) (tw_or1 (tv_cmp (w1 := false) (w2 := false) (op_neA hr.units) od_ne (ev_blt (w1 := false) cr_len cd_len (av_cons (ev_slot 1) av_nil) rfl m_len) (ev_gint rfl g_THREE) (nomark _))))) (sss_one (ss_ret ev_bl)) sss_nil) (sss_one (ss_ret (ev_and (w1 := false) (ev_chain (w2 := false) op_lt od_lt op_le od_le (ev_ix (w1 := false) (w2 := false) (ev_slot 1) ev_int) (ev_ix (w1 := false) (w2 := false) (ev_slot 1) ev_int) (ev_slot 0)) (ev_one (ev_cmp (w1 := false) (w2 := false) op_gt od_gt (ev_ix (w1 := false) (w2 := false) (ev_slot 1) ev_int) ev_int (nomark _)))))))
abbrev s_are_lines_of : Stmt := topS 20
def c_are_lines_of_1 : AS := (oLc [2] (iSeq (eSlot 1)) (gN 2) bYes (eCall F_is_line (aCons (eSlot 0) (aCons (eSlot 2) aNil))))
def c_are_lines_of_2 : AS := (oLc [3, 4] (iZip' (eSlot 1) (eSl (eSlot 1) (oAt (eC (.int 1))) oNo)) (gT (gsCons (gN 3) (gsCons (gN 4) gsNil))) bYes (eOp dLe (eOp dIx (eSlot 3) (eC (.int 0))) (eOp dIx (eSlot 4) (eC (.int 0)))))
def t_are_lines_of_1 : List B → Fl := (sIf (bOr (bNot (bV (eUn (dIsi "tuple") (eSlot 1)))) (bOr (bV (eOp dGt (eBlt dLen (aCons (eSlot 1) aNil)) (eC (.int 30)))) (bNot (bV (eBlt dAll (aCons (eO c_are_lines_of_1) aNil)))))) (sRet (eC (.bl false))) sNx)
def t_are_lines_of_2 : List B → Fl := (sRet (eBlt dAll (aCons (eO c_are_lines_of_2) aNil)))
def g_are_lines_of : List B → Fl :=
  (sSeq t_are_lines_of_1 t_are_lines_of_2)
def F_are_lines_of : FS := fun a => noX (fnSem 2 3 g_are_lines_of a)
theorem sc_are_lines_of : FnScope ["length", "value", "line", "one", "other"] ["length", "value"] (defScope s_are_lines_of) := ⟨rfl, rfl, rfl, by decide +kernel, rfl, by decide +kernel, by decide +kernel⟩
theorem ok_are_lines_of {P : Program} {w : World} {K : PySem.W.Frag} {mg : PySem.Str → Option Value} {base : Heap} {f : Addr} {fd : FuncData} (m_all : mg "all" = none) (m_isinstance : mg "isinstance" = none) (m_len : mg "len" = none) (m_tuple : mg "tuple" = none) (m_zip : mg "zip" = none) (g_MOST_LINES : ∃ t, mg "MOST_LINES" = some (.int 30 t)) (C_is_line : Cal P w K mg base 4 "is_line" 2 F_is_line)
    (F : FunD K "are_lines_of" "are_lines_of" (defArgs s_are_lines_of) (defBody s_are_lines_of) (defScope s_are_lines_of) [] [] f fd) : FnG P w K mg base CX0 (4 + 1) f fd ["length", "value"] (spF K mg F_are_lines_of) := by
  have nd := sc_are_lines_of.nd
  exact FnG.of_body F sc_are_lines_of rfl rfl fun cdv A outer s H E hr hgd =>
    (sss_cons (ss_if (TW.tv (tw_or (tv_not (tv_val (w := false) (ev_isi (w1 := false) "tuple" (ev_slot 1) rfl m_isinstance rfl m_tuple))) (tw_or (tv_cmp (w1 := false) (w2 := false) op_gt od_gt (ev_blt (w1 := false) cr_len cd_len (av_cons (ev_slot 1) av_nil) rfl m_len) (ev_gint rfl g_MOST_LINES) (nomark _)) (tw_or1 (tv_not (tv_val (w := false) (ev_blt (w1 := false) (cr_all rfl) cd_all (av_cons (ev_o (eo_lc [("line", 2)] rfl nd (iv_seq (w := false) (ev_slot 1)) (blkOk_by (by kernel_rfl)) rfl (fun _ _ _ _ _ => (gv_name 2 nd)) (fun _ _ _ _ _ => tsv_nil) (fun _ _ _ _ _ => (ev_call (C_is_line.mono (by decide)) hr hgd (av_cons (ev_slot 0) (av_cons (ev_slot 2) av_nil)))))) av_nil) rfl m_all))))))) (sss_one (ss_ret ev_bl)) sss_nil) (sss_one (ss_ret (ev_blt (w1 := false) (cr_all rfl) cd_all (av_cons (ev_o (eo_lc [("one", 3), ("other", 4)] rfl nd (iv_zip (w1 := false) (w2 := false) rfl m_zip (ev_slot 1) (ev_sl (w1 := false) (ev_slot 1) (ov_at (w := false) ev_int) ov_no)) (blkOk_by (by kernel_rfl)) rfl (fun _ _ _ _ _ => (gv_tup rfl (gvs_cons (gv_name 3 nd) (gvs_cons (gv_name 4 nd) gvs_nil)) (gsCons_len (gsCons_len gsNil_len)))) (fun _ _ _ _ _ => tsv_nil) (fun _ _ _ _ _ => (ev_cmp (w1 := false) (w2 := false) op_le od_le (ev_ix (w1 := false) (w2 := false) (ev_slot 3) ev_int) (ev_ix (w1 := false) (w2 := false) (ev_slot 4) ev_int) (nomark _))))) av_nil) rfl m_all))))
abbrev s_check_lines : Stmt := topS 21
def t_check_lines_1 : List B → Fl := (sDo (eCall F_check_film (aCons (eSlot 0) aNil)))
def t_check_lines_2 : List B → Fl := (sIf (bNot (bV (eCall F_are_lines_of (aCons (eOp dIx (eSlot 0) (eC (.int 0))) (aCons (eSlot 1) aNil))))) (fun _ => .bad) sNx)
def g_check_lines : List B → Fl :=
  (sSeq t_check_lines_1 t_check_lines_2)
def F_check_lines : FS := fun a => noX (fnSem 2 0 g_check_lines a)
theorem sc_check_lines : FnScope ["film", "lines"] ["film", "lines"] (defScope s_check_lines) := ⟨rfl, rfl, rfl, by decide +kernel, rfl, by decide +kernel, by decide +kernel⟩
theorem ok_check_lines {P : Program} {w : World} {K : PySem.W.Frag} {mg : PySem.Str → Option Value} {base : Heap} {f : Addr} {fd : FuncData} (C_check_film : Cal P w K mg base 5 "check_film" 1 F_check_film) (C_are_lines_of : Cal P w K mg base 5 "are_lines_of" 2 F_are_lines_of)
    (F : FunD K "check_lines" "check_lines" (defArgs s_check_lines) (defBody s_check_lines) (defScope s_check_lines) [] [] f fd) : FnG P w K mg base CX0 (5 + 1) f fd ["film", "lines"] (spF K mg F_check_lines) := by
  have nd := sc_check_lines.nd
  exact FnG.of_body F sc_check_lines rfl rfl fun cdv A outer s H E hr hgd =>
    (sss_cons (ss_do (w := false) (ev_call (C_check_film.mono (by decide)) hr hgd (av_cons (ev_slot 0) av_nil))) (sss_one (ss_if (tv_not (tv_val (w := false) (ev_call (C_are_lines_of.mono (by decide)) hr hgd (av_cons (ev_ix (w1 := false) (w2 := false) (ev_slot 0) ev_int) (av_cons (ev_slot 1) av_nil))))) (sss_one ss_never) sss_nil)))
abbrev s_check_rules : Stmt := topS 22
def t_check_rules_1 : List B → Fl := (sDo (eCall F_check_lines (aCons (eSlot 0) (aCons (eSlot 1) aNil))))
def t_check_rules_2 : List B → Fl := (sIf (bOr (bNot (bV (eCall F_are_between (aCons (eSlot 2) (aCons (eC (.int 0)) (aCons (eC (.int 100)) aNil)))))) (bV (eOp dNe (eBlt dLen (aCons (eSlot 2) aNil)) (eC (.int 4))))) (fun _ => .bad) sNx)
def g_check_rules : List B → Fl :=
  (sSeq t_check_rules_1 t_check_rules_2)
def F_check_rules : FS := fun a => noX (fnSem 3 0 g_check_rules a)
theorem sc_check_rules : FnScope ["film", "lines", "rules"] ["film", "lines", "rules"] (defScope s_check_rules) := ⟨rfl, rfl, rfl, by decide +kernel, rfl, by decide +kernel, by decide +kernel⟩
theorem ok_check_rules {P : Program} {w : World} {K : PySem.W.Frag} {mg : PySem.Str → Option Value} {base : Heap} {f : Addr} {fd : FuncData} (m_len : mg "len" = none) (g_MOST_RULE : ∃ t, mg "MOST_RULE" = some (.int 100 t)) (g_FOUR_films : ∃ t, mg "FOUR_films" = some (.int 4 t)) (C_check_lines : Cal P w K mg base 6 "check_lines" 2 F_check_lines) (C_are_between : Cal P w K mg base 3 "are_between" 3 F_are_between)
    (F : FunD K "check_rules" "check_rules" (defArgs s_check_rules) (defBody s_check_rules) (defScope s_check_rules) [] [] f fd) : FnG P w K mg base CX0 (6 + 1) f fd ["film", "lines", "rules"] (spF K mg F_check_rules) := by
  have nd := sc_check_rules.nd
  exact FnG.of_body F sc_check_rules rfl rfl fun cdv A outer s H E hr hgd =>
    (sss_cons (ss_do (w := false) (ev_call (C_check_lines.mono (by decide)) hr hgd (av_cons (ev_slot 0) (av_cons (ev_slot 1) av_nil)))) (sss_one (ss_if (TW.tv (tw_or (tv_not (tv_val (w := false) (ev_call (C_are_between.mono (by decide)) hr hgd (av_cons (ev_slot 2) (av_cons ev_int (av_cons (ev_gint rfl g_MOST_RULE) av_nil)))))) (tw_or1 (tv_cmp (w1 := false) (w2 := false) (op_neA hr.units) od_ne (ev_blt (w1 := false) cr_len cd_len (av_cons (ev_slot 2) av_nil) rfl m_len) (ev_gint rfl g_FOUR_films) (nomark _))))) (sss_one ss_never) sss_nil)))
abbrev s_ons_of : Stmt := topS 25
def g_ons_of : List B → Fl :=
  (sRet (eTup (aCons (eBlt dMaxB (aCons (eC (.int 0)) (aCons (eOp dSub (eOp dIx (eSlot 0) (eC (.int 0))) (eOp dIx (eSlot 1) (eC (.int 0)))) aNil))) (aCons (eOp dAdd (eOp dIx (eSlot 0) (eC (.int 0))) (eOp dIx (eSlot 1) (eC (.int 1)))) aNil))))
def F_ons_of : FS := fun a => noX (fnSem 2 0 g_ons_of a)
theorem sc_ons_of : FnScope ["line", "rules"] ["line", "rules"] (defScope s_ons_of) := ⟨rfl, rfl, rfl, by decide +kernel, rfl, by decide +kernel, by decide +kernel⟩
theorem ok_ons_of {P : Program} {w : World} {K : PySem.W.Frag} {mg : PySem.Str → Option Value} {base : Heap} {f : Addr} {fd : FuncData} (m_max : mg "max" = none)
    (F : FunD K "ons_of" "ons_of" (defArgs s_ons_of) (defBody s_ons_of) (defScope s_ons_of) [] [] f fd) : FnG P w K mg base CX0 (0 + 1) f fd ["line", "rules"] (spF K mg F_ons_of) := by
  have nd := sc_ons_of.nd
  exact FnG.of_body F sc_ons_of rfl rfl fun cdv A outer s H E hr hgd =>
    (sss_one (ss_ret (ev_tup (av_cons (ev_blt (w1 := false) (cr_maxB rfl) cd_maxB (av_cons ev_int (av_cons (ev_op (w1 := false) (w2 := false) op_sub od_sub (ev_ix (w1 := false) (w2 := false) (ev_slot 0) ev_int) (ev_ix (w1 := false) (w2 := false) (ev_slot 1) ev_int)) av_nil)) rfl m_max) (av_cons (ev_op (w1 := false) (w2 := false) op_addA od_add (ev_ix (w1 := false) (w2 := false) (ev_slot 0) ev_int) (ev_ix (w1 := false) (w2 := false) (ev_slot 1) ev_int)) av_nil)))))
abbrev s_last_off : Stmt := topS 26
def g_last_off : List B → Fl :=
  (sRet (eBlt dMinB (aCons (eOp dIx (eSlot 0) (eC (.int 0))) (aCons (eOp dAdd (eOp dIx (eSlot 1) (eC (.int 1))) (eOp dIx (eSlot 2) (eC (.int 2)))) aNil))))
def F_last_off : FS := fun a => noX (fnSem 3 0 g_last_off a)
theorem sc_last_off : FnScope ["film", "line", "rules"] ["film", "line", "rules"] (defScope s_last_off) := ⟨rfl, rfl, rfl, by decide +kernel, rfl, by decide +kernel, by decide +kernel⟩
theorem ok_last_off {P : Program} {w : World} {K : PySem.W.Frag} {mg : PySem.Str → Option Value} {base : Heap} {f : Addr} {fd : FuncData} (m_min : mg "min" = none)
    (F : FunD K "last_off" "last_off" (defArgs s_last_off) (defBody s_last_off) (defScope s_last_off) [] [] f fd) : FnG P w K mg base CX0 (0 + 1) f fd ["film", "line", "rules"] (spF K mg F_last_off) := by
  have nd := sc_last_off.nd
  exact FnG.of_body F sc_last_off rfl rfl fun cdv A outer s H E hr hgd =>
    (sss_one (ss_ret (ev_blt (w1 := false) (cr_minB rfl) cd_minB (av_cons (ev_ix (w1 := false) (w2 := false) (ev_slot 0) ev_int) (av_cons (ev_op (w1 := false) (w2 := false) op_addA od_add (ev_ix (w1 := false) (w2 := false) (ev_slot 1) ev_int) (ev_ix (w1 := false) (w2 := false) (ev_slot 2) ev_int)) av_nil)) rfl m_min)))
abbrev s_shows_from : Stmt := topS 29
def b_shows_from_1 : List B → Fl := (sAug 8 dIAdd (eC (.int 1)))
def b_shows_from_2 : List B → Fl := (sSeq (sWhile (2 ^ 40) (bAnd (bV (eOp dLt (eSlot 8) (eBlt dLen (aCons (eSlot 7) aNil)))) (bV (eOp dLe (eOp dIx (eSlot 7) (eSlot 8)) (eSlot 9)))) b_shows_from_1) (sIf (bOr (bV (eOp dEq (eSlot 8) (eBlt dLen (aCons (eSlot 7) aNil)))) (bV (eOp dLe (eOp dAdd (eSlot 9) (eOp dIx (eSlot 1) (eC (.int 2)))) (eOp dIx (eSlot 7) (eSlot 8))))) (sDo (eApp 6 (eTup (aCons (eSlot 9) (aCons (eOp dAdd (eSlot 9) (eOp dIx (eSlot 1) (eC (.int 2)))) aNil))))) sNx))
def t_shows_from_1 : List B → Fl := (sUnp (eCall F_ons_of (aCons (eSlot 1) (aCons (eSlot 2) aNil))) (gT (gsCons (gN 4) (gsCons (gN 5) gsNil))))
def t_shows_from_2 : List B → Fl := (sPar [6, 7, 8] (mOw (oLst aNil) (mVa (eOp dIx (eSlot 0) (eC (.int 1))) (mVa (eC (.int 0)) mNil))))
def t_shows_from_3 : List B → Fl := (sFor (iRange2 (eBlt dMaxB (aCons (eSlot 4) (aCons (eSlot 3) aNil))) (eOp dAdd (eBlt dMinB (aCons (eSlot 5) (aCons (eOp dSub (eCall F_last_off (aCons (eSlot 0) (aCons (eSlot 1) (aCons (eSlot 2) aNil)))) (eOp dIx (eSlot 1) (eC (.int 2)))) aNil))) (eC (.int 1)))) (gN 9) b_shows_from_2)
def t_shows_from_4 : List B → Fl := (sFz 6 (sRet (eSlot 6)))
def g_shows_from : List B → Fl :=
  (sSeq t_shows_from_1 (sSeq t_shows_from_2 (sSeq t_shows_from_3 t_shows_from_4)))
def F_shows_from : FS := fun a => noX (fnSem 4 6 g_shows_from a)
theorem sc_shows_from : FnScope ["film", "line", "rules", "tick", "least", "most", "found", "cuts", "at", "on"] ["film", "line", "rules", "tick"] (defScope s_shows_from) := ⟨rfl, rfl, rfl, by decide +kernel, rfl, by decide +kernel, by decide +kernel⟩
theorem ok_shows_from {P : Program} {w : World} {K : PySem.W.Frag} {mg : PySem.Str → Option Value} {base : Heap} {f : Addr} {fd : FuncData} (m_len : mg "len" = none) (m_max : mg "max" = none) (m_min : mg "min" = none) (m_range : mg "range" = none) (C_ons_of : Cal P w K mg base 1 "ons_of" 2 F_ons_of) (C_last_off : Cal P w K mg base 1 "last_off" 3 F_last_off)
    (F : FunD K "shows_from" "shows_from" (defArgs s_shows_from) (defBody s_shows_from) (defScope s_shows_from) [] [] f fd) : FnG P w K mg base CX0 (1 + 1) f fd ["film", "line", "rules", "tick"] (spF K mg F_shows_from) := by
  have nd := sc_shows_from.nd
  exact FnG.of_body F sc_shows_from rfl rfl fun cdv A outer s H E hr hgd =>
    (sss_cons (ss_unp (ev_call (C_ons_of.mono (by decide)) hr hgd (av_cons (ev_slot 1) (av_cons (ev_slot 2) av_nil))) (gv_tup rfl (gvs_cons (gv_name 4 nd) (gvs_cons (gv_name 5 nd) gvs_nil)) (gsCons_len (gsCons_len gsNil_len)))) (sss_cons (ss_par3 6 7 8 (mv_ow (eo_lst av_nil) (mv_va (ev_ix (w1 := false) (w2 := false) (ev_slot 0) ev_int) (mv_va ev_int mv_nil))) rfl nd) (sss_cons (ss_for PassesOwn.never rfl (iv_range2 rfl m_range (ev_blt (w1 := false) (cr_maxB rfl) cd_maxB (av_cons (ev_slot 4) (av_cons (ev_slot 3) av_nil)) rfl m_max) (ev_op (w1 := false) (w2 := false) op_addA od_add (ev_blt (w1 := false) (cr_minB rfl) cd_minB (av_cons (ev_slot 5) (av_cons (ev_op (w1 := false) (w2 := false) op_sub od_sub (ev_call (C_last_off.mono (by decide)) hr hgd (av_cons (ev_slot 0) (av_cons (ev_slot 1) (av_cons (ev_slot 2) av_nil)))) (ev_ix (w1 := false) (w2 := false) (ev_slot 1) ev_int)) av_nil)) rfl m_min) ev_int)) (gv_name 9 nd) (sss_cons (ss_while (2 ^ 40) PassesOwn.never (TW.tv (tw_and (tv_cmp (w1 := false) (w2 := false) op_lt od_lt (ev_slot 8) (ev_blt (w1 := false) cr_len cd_len (av_cons (ev_slot 7) av_nil) rfl m_len) (nomark _)) (tw_and1 (tv_cmp (w1 := false) (w2 := false) op_le od_le (ev_ix (w1 := false) (w2 := false) (ev_slot 7) (ev_slot 8)) (ev_slot 9) (nomark _))))) (sss_one (ss_aug (w2 := false) 8 (pip_of iop_add) od_iadd ev_int nd))) (sss_one (ss_if (TW.tv (tw_or (tv_cmp (w1 := false) (w2 := false) (op_eqA hr.units) od_eq (ev_slot 8) (ev_blt (w1 := false) cr_len cd_len (av_cons (ev_slot 7) av_nil) rfl m_len) (nomark _)) (tw_or1 (tv_cmp (w1 := false) (w2 := false) op_le od_le (ev_op (w1 := false) (w2 := false) op_addA od_add (ev_slot 9) (ev_ix (w1 := false) (w2 := false) (ev_slot 1) ev_int)) (ev_ix (w1 := false) (w2 := false) (ev_slot 7) (ev_slot 8)) (nomark _))))) (sss_one (ss_do (w := false) (ev_app 6 (ev_tup (av_cons (ev_slot 9) (av_cons (ev_op (w1 := false) (w2 := false) op_addA od_add (ev_slot 9) (ev_ix (w1 := false) (w2 := false) (ev_slot 1) ev_int)) av_nil)))))) sss_nil)))) (sss_one (ss_fz 6 (ss_ret (ev_slot 6)))))))
abbrev s_first_from : Stmt := topS 41
def t_first_from_1 : List B → Fl := (sSet 4 (eCall F_shows_from (aCons (eSlot 0) (aCons (eSlot 1) (aCons (eSlot 2) (aCons (eSlot 3) aNil))))))
def t_first_from_2 : List B → Fl := (sRet (eIf (bV (eOp dNe (eSlot 4) (eO (oLst aNil)))) (eOp dIx (eSlot 4) (eC (.int 0))) (eC .non)))
def g_first_from : List B → Fl :=
  (sSeq t_first_from_1 t_first_from_2)
def F_first_from : FS := fun a => noX (fnSem 4 1 g_first_from a)
theorem sc_first_from : FnScope ["film", "line", "rules", "tick", "found"] ["film", "line", "rules", "tick"] (defScope s_first_from) := ⟨rfl, rfl, rfl, by decide +kernel, rfl, by decide +kernel, by decide +kernel⟩
theorem ok_first_from {P : Program} {w : World} {K : PySem.W.Frag} {mg : PySem.Str → Option Value} {base : Heap} {f : Addr} {fd : FuncData} (C_shows_from : Cal P w K mg base 2 "shows_from" 4 F_shows_from)
    (F : FunD K "first_from" "first_from" (defArgs s_first_from) (defBody s_first_from) (defScope s_first_from) [] [] f fd) : FnG P w K mg base CX0 (2 + 1) f fd ["film", "line", "rules", "tick"] (spF K mg F_first_from) := by
  have nd := sc_first_from.nd
  exact FnG.of_body F sc_first_from rfl rfl fun cdv A outer s H E hr hgd =>
    (sss_cons (ss_set 4 (ev_call (C_shows_from.mono (by decide)) hr hgd (av_cons (ev_slot 0) (av_cons (ev_slot 1) (av_cons (ev_slot 2) (av_cons (ev_slot 3) av_nil))))) nd) (sss_one (ss_ret (ev_if (tv_cmp (w1 := false) (w2 := false) (op_neA hr.units) od_ne (ev_slot 4) (ev_o (eo_lst av_nil)) (nomark _)) (ev_ix (w1 := false) (w2 := false) (ev_slot 4) ev_int) ev_non))))
abbrev s_told_of : Stmt := topS 42
def b_told_of_1 : List B → Fl := (sSeq (sSet 6 (eCall F_first_from (aCons (eSlot 0) (aCons (eSlot 5) (aCons (eSlot 2) (aCons (eIf (bV (eOp dNe (eSlotW 3) (eO (oLst aNil)))) (eOp dAdd (eOp dIx (eOp dIx (eSlotW 3) (eUn dNeg (eC (.int 1)))) (eC (.int 1))) (eOp dIx (eSlot 2) (eC (.int 3)))) (eC (.int 0))) aNil)))))) (sSeq (sIf (bV (eOp dIs (eSlot 6) (eC .non))) (sFz 3 (sRet (eTup (aCons (eSlot 3) (aCons (eSlot 4) aNil))))) sNx) (sDo (eApp 3 (eSlot 6)))))
def t_told_of_1 : List B → Fl := (sSetO 3 (oLst aNil))
def t_told_of_2 : List B → Fl := (sFor (iEnum' (eSlot 1)) (gT (gsCons (gN 4) (gsCons (gN 5) gsNil))) b_told_of_1)
def t_told_of_3 : List B → Fl := (sFz 3 (sRet (eTup (aCons (eSlot 3) (aCons (eC .non) aNil)))))
def g_told_of : List B → Fl :=
  (sSeq t_told_of_1 (sSeq t_told_of_2 t_told_of_3))
def F_told_of : FS := fun a => noX (fnSem 3 4 g_told_of a)
theorem sc_told_of : FnScope ["film", "lines", "rules", "found", "place", "line", "show"] ["film", "lines", "rules"] (defScope s_told_of) := ⟨rfl, rfl, rfl, by decide +kernel, rfl, by decide +kernel, by decide +kernel⟩
theorem ok_told_of {P : Program} {w : World} {K : PySem.W.Frag} {mg : PySem.Str → Option Value} {base : Heap} {f : Addr} {fd : FuncData} (m_enumerate : mg "enumerate" = none) (C_first_from : Cal P w K mg base 3 "first_from" 4 F_first_from)
    (F : FunD K "told_of" "told_of" (defArgs s_told_of) (defBody s_told_of) (defScope s_told_of) [] [] f fd) : FnG P w K mg base CX0 (3 + 1) f fd ["film", "lines", "rules"] (spF K mg F_told_of) := by
  have nd := sc_told_of.nd
  exact FnG.of_body F sc_told_of rfl rfl fun cdv A outer s H E hr hgd =>
    (sss_cons (ss_setO 3 (eo_lst av_nil) nd) (sss_cons (ss_for PassesOwn.never rfl (iv_enum (w := false) rfl m_enumerate (ev_slot 1)) (gv_tup rfl (gvs_cons (gv_name 4 nd) (gvs_cons (gv_name 5 nd) gvs_nil)) (gsCons_len (gsCons_len gsNil_len))) (sss_cons (ss_set 6 (ev_call (C_first_from.mono (by decide)) hr hgd (av_cons (ev_slot 0) (av_cons (ev_slot 5) (av_cons (ev_slot 2) (av_cons (ev_if (tv_cmp (w1 := true) (w2 := false) (op_neA hr.units) od_ne (ev_slotW 3) (ev_o (eo_lst av_nil)) (nomark _)) (ev_op (w1 := false) (w2 := false) op_addA od_add (ev_ix (w1 := false) (w2 := false) (ev_ix (w1 := true) (w2 := false) (ev_slotW 3) (ev_un (w1 := false) un_neg ud_neg ev_int)) ev_int) (ev_ix (w1 := false) (w2 := false) (ev_slot 2) ev_int)) ev_int) av_nil))))) nd) (sss_cons (ss_if (tv_cmp (w1 := false) (w2 := false) op_isN od_is (ev_slot 6) ev_non (nomark _)) (sss_one (ss_fz 3 (ss_ret (ev_tup (av_cons (ev_slot 3) (av_cons (ev_slot 4) av_nil)))))) sss_nil) (sss_one (ss_do (w := false) (ev_app 3 (ev_slot 6))))))) (sss_one (ss_fz 3 (ss_ret (ev_tup (av_cons (ev_slot 3) (av_cons ev_non av_nil))))))))
abbrev s_paper_of : Stmt := topS 43
def c_paper_of_1 : AS := (oLc [5, 6] (iSeq (eSlot 3)) (gT (gsCons (gN 5) (gsCons (gN 6) gsNil))) bYes (eSlot 6))
def t_paper_of_1 : List B → Fl := (sUnp (eCall F_told_of (aCons (eSlot 0) (aCons (eSlot 1) (aCons (eSlot 2) aNil)))) (gT (gsCons (gN 3) (gsCons (gN 4) gsNil))))
def t_paper_of_2 : List B → Fl := (sIf (bV (eOp dIs (eSlot 4) (eC .non))) (sRet (eTup (aCons (eC (.str "plan")) (aCons (eBlt dTuple (aCons (eSlot 3) aNil)) aNil)))) sNx)
def t_paper_of_3 : List B → Fl := (sRet (eTup (aCons (eC (.str "full")) (aCons (eC (.int 0)) (aCons (eSlot 4) (aCons (eBlt dTuple (aCons (eO c_paper_of_1) aNil)) aNil))))))
def g_paper_of : List B → Fl :=
  (sSeq t_paper_of_1 (sSeq t_paper_of_2 t_paper_of_3))
def F_paper_of : FS := fun a => noX (fnSem 3 4 g_paper_of a)
theorem sc_paper_of : FnScope ["film", "lines", "rules", "found", "place", "on", "off"] ["film", "lines", "rules"] (defScope s_paper_of) := ⟨rfl, rfl, rfl, by decide +kernel, rfl, by decide +kernel, by decide +kernel⟩
theorem ok_paper_of {P : Program} {w : World} {K : PySem.W.Frag} {mg : PySem.Str → Option Value} {base : Heap} {f : Addr} {fd : FuncData} (m_tuple : mg "tuple" = none) (g_PLAN : ∃ t, mg "PLAN" = some (.str "plan" t)) (g_FULL : ∃ t, mg "FULL" = some (.str "full" t)) (C_told_of : Cal P w K mg base 4 "told_of" 3 F_told_of)
    (F : FunD K "paper_of" "paper_of" (defArgs s_paper_of) (defBody s_paper_of) (defScope s_paper_of) [] [] f fd) : FnG P w K mg base CX0 (4 + 1) f fd ["film", "lines", "rules"] (spF K mg F_paper_of) := by
  have nd := sc_paper_of.nd
  exact FnG.of_body F sc_paper_of rfl rfl fun cdv A outer s H E hr hgd =>
    (sss_cons (ss_unp (ev_call (C_told_of.mono (by decide)) hr hgd (av_cons (ev_slot 0) (av_cons (ev_slot 1) (av_cons (ev_slot 2) av_nil)))) (gv_tup rfl (gvs_cons (gv_name 3 nd) (gvs_cons (gv_name 4 nd) gvs_nil)) (gsCons_len (gsCons_len gsNil_len)))) (sss_cons (ss_if (tv_cmp (w1 := false) (w2 := false) op_isN od_is (ev_slot 4) ev_non (nomark _)) (sss_one (ss_ret (ev_tup (av_cons (ev_gstr rfl g_PLAN) (av_cons (ev_ty (w1 := false) call_tuple_of cd_tuple (av_cons (ev_slot 3) av_nil) rfl m_tuple) av_nil))))) sss_nil) (sss_one (ss_ret (ev_tup (av_cons (ev_gstr rfl g_FULL) (av_cons ev_int (av_cons (ev_slot 4) (av_cons (ev_ty (w1 := false) call_tuple_of cd_tuple (av_cons (ev_o (eo_lc [("on", 5), ("off", 6)] rfl nd (iv_seq (w := false) (ev_slot 3)) (blkOk_by (by kernel_rfl)) rfl (fun _ _ _ _ _ => (gv_tup rfl (gvs_cons (gv_name 5 nd) (gvs_cons (gv_name 6 nd) gvs_nil)) (gsCons_len (gsCons_len gsNil_len)))) (fun _ _ _ _ _ => tsv_nil) (fun _ _ _ _ _ => (ev_slot 6)))) av_nil) rfl m_tuple) av_nil)))))))))
abbrev s_can_told : Stmt := topS 44
def t_can_told_1 : List B → Fl := (sDo (eCall F_check_rules (aCons (eSlot 0) (aCons (eSlot 1) (aCons (eSlot 2) aNil)))))
def t_can_told_2 : List B → Fl := (sRet (eCall F_paper_of (aCons (eSlot 0) (aCons (eSlot 1) (aCons (eSlot 2) aNil)))))
def g_can_told : List B → Fl :=
  (sSeq t_can_told_1 t_can_told_2)
def F_can_told : FS := fun a => noX (fnSem 3 0 g_can_told a)
theorem sc_can_told : FnScope ["film", "lines", "rules"] ["film", "lines", "rules"] (defScope s_can_told) := ⟨rfl, rfl, rfl, by decide +kernel, rfl, by decide +kernel, by decide +kernel⟩
theorem ok_can_told {P : Program} {w : World} {K : PySem.W.Frag} {mg : PySem.Str → Option Value} {base : Heap} {f : Addr} {fd : FuncData} (C_check_rules : Cal P w K mg base 7 "check_rules" 3 F_check_rules) (C_paper_of : Cal P w K mg base 5 "paper_of" 3 F_paper_of)
    (F : FunD K "can_told" "can_told" (defArgs s_can_told) (defBody s_can_told) (defScope s_can_told) [] [] f fd) : FnG P w K mg base CX0 (7 + 1) f fd ["film", "lines", "rules"] (spF K mg F_can_told) := by
  have nd := sc_can_told.nd
  exact FnG.of_body F sc_can_told rfl rfl fun cdv A outer s H E hr hgd =>
    (sss_cons (ss_do (w := false) (ev_call (C_check_rules.mono (by decide)) hr hgd (av_cons (ev_slot 0) (av_cons (ev_slot 1) (av_cons (ev_slot 2) av_nil))))) (sss_one (ss_ret (ev_call (C_paper_of.mono (by decide)) hr hgd (av_cons (ev_slot 0) (av_cons (ev_slot 1) (av_cons (ev_slot 2) av_nil)))))))
abbrev s__law_fits : Stmt := topS 56
def c__law_fits_1 : AS := (oLc [6] (iSeq (eOp dIx (eSlot 0) (eC (.int 1)))) (gN 6) bYes (eChain dLt dLt (eSlot 4) (eSlot 6) (eSlot 5)))
def t__law_fits_1 : List B → Fl := (sUnp (eSlot 3) (gT (gsCons (gN 4) (gsCons (gN 5) gsNil))))
def t__law_fits_2 : List B → Fl := (sIf (bOr (bV (eOp dLt (eSlot 4) (eOp dSub (eOp dIx (eSlot 1) (eC (.int 0))) (eOp dIx (eSlot 2) (eC (.int 0)))))) (bOr (bV (eOp dGt (eSlot 4) (eOp dAdd (eOp dIx (eSlot 1) (eC (.int 0))) (eOp dIx (eSlot 2) (eC (.int 1)))))) (bOr (bV (eOp dGt (eSlot 5) (eOp dAdd (eOp dIx (eSlot 1) (eC (.int 1))) (eOp dIx (eSlot 2) (eC (.int 2)))))) (bOr (bV (eOp dGt (eSlot 5) (eOp dIx (eSlot 0) (eC (.int 0))))) (bV (eOp dLt (eOp dSub (eSlot 5) (eSlot 4)) (eOp dIx (eSlot 1) (eC (.int 2))))))))) (sRet (eC (.bl false))) sNx)
def t__law_fits_3 : List B → Fl := (sRet (eNot (eBlt dAny (aCons (eO c__law_fits_1) aNil))))
def g__law_fits : List B → Fl :=
  (sSeq t__law_fits_1 (sSeq t__law_fits_2 t__law_fits_3))
def F__law_fits : FS := fun a => noX (fnSem 4 3 g__law_fits a)
theorem sc__law_fits : FnScope ["film", "line", "rules", "show", "on", "off", "cut"] ["film", "line", "rules", "show"] (defScope s__law_fits) := ⟨rfl, rfl, rfl, by decide +kernel, rfl, by decide +kernel, by decide +kernel⟩
theorem ok__law_fits {P : Program} {w : World} {K : PySem.W.Frag} {mg : PySem.Str → Option Value} {base : Heap} {f : Addr} {fd : FuncData} (m_any : mg "any" = none)
    (F : FunD K "_law_fits" "_law_fits" (defArgs s__law_fits) (defBody s__law_fits) (defScope s__law_fits) [] [] f fd) : FnG P w K mg base CX0 (0 + 1) f fd ["film", "line", "rules", "show"] (spF K mg F__law_fits) := by
  have nd := sc__law_fits.nd
  exact FnG.of_body F sc__law_fits rfl rfl fun cdv A outer s H E hr hgd =>
    (sss_cons (ss_unp (ev_slot 3) (gv_tup rfl (gvs_cons (gv_name 4 nd) (gvs_cons (gv_name 5 nd) gvs_nil)) (gsCons_len (gsCons_len gsNil_len)))) (sss_cons (ss_if (TW.tv (tw_or (tv_cmp (w1 := false) (w2 := false) op_lt od_lt (ev_slot 4) (ev_op (w1 := false) (w2 := false) op_sub od_sub (ev_ix (w1 := false) (w2 := false) (ev_slot 1) ev_int) (ev_ix (w1 := false) (w2 := false) (ev_slot 2) ev_int)) (nomark _)) (tw_or (tv_cmp (w1 := false) (w2 := false) op_gt od_gt (ev_slot 4) (ev_op (w1 := false) (w2 := false) op_addA od_add (ev_ix (w1 := false) (w2 := false) (ev_slot 1) ev_int) (ev_ix (w1 := false) (w2 := false) (ev_slot 2) ev_int)) (nomark _)) (tw_or (tv_cmp (w1 := false) (w2 := false) op_gt od_gt (ev_slot 5) (ev_op (w1 := false) (w2 := false) op_addA od_add (ev_ix (w1 := false) (w2 := false) (ev_slot 1) ev_int) (ev_ix (w1 := false) (w2 := false) (ev_slot 2) ev_int)) (nomark _)) (tw_or (tv_cmp (w1 := false) (w2 := false) op_gt od_gt (ev_slot 5) (ev_ix (w1 := false) (w2 := false) (ev_slot 0) ev_int) (nomark _)) (tw_or1 (tv_cmp (w1 := false) (w2 := false) op_lt od_lt (ev_op (w1 := false) (w2 := false) op_sub od_sub (ev_slot 5) (ev_slot 4)) (ev_ix (w1 := false) (w2 := false) (ev_slot 1) ev_int) (nomark _)))))))) (sss_one (ss_ret ev_bl)) sss_nil) (sss_one (ss_ret (ev_not (w1 := false) (ev_blt (w1 := false) (cr_any rfl) cd_any (av_cons (ev_o (eo_lc [("cut", 6)] rfl nd (iv_seq (w := false) (ev_ix (w1 := false) (w2 := false) (ev_slot 0) ev_int)) (blkOk_by (by kernel_rfl)) rfl (fun _ _ _ _ _ => (gv_name 6 nd)) (fun _ _ _ _ _ => tsv_nil) (fun _ _ _ _ _ => (ev_chain (w2 := false) op_lt od_lt op_lt od_lt (ev_slot 4) (ev_slot 6) (ev_slot 5))))) av_nil) rfl m_any))))))
abbrev s__law_shows : Stmt := topS 57
def c__law_shows_1 : AS := (oLc [4] (iRange1 (eOp dIx (eSlot 0) (eC (.int 0)))) (gN 4) (bV (eOp dLe (eOp dAdd (eSlot 4) (eOp dIx (eSlot 1) (eC (.int 2)))) (eOp dIx (eSlot 0) (eC (.int 0))))) (eTup (aCons (eBlt dInt (aCons (eSlot 4) aNil)) (aCons (eBlt dInt (aCons (eOp dAdd (eSlot 4) (eOp dIx (eSlot 1) (eC (.int 2)))) aNil)) aNil))))
def c__law_shows_2 : AS := (oLc [5] (iSeq (eSlot 3)) (gN 5) (bV (eCall F__law_fits (aCons (eSlot 0) (aCons (eSlot 1) (aCons (eSlot 2) (aCons (eSlot 5) aNil)))))) (eSlot 5))
def t__law_shows_1 : List B → Fl := (sSet 3 (eO c__law_shows_1))
def t__law_shows_2 : List B → Fl := (sRet (eO c__law_shows_2))
def g__law_shows : List B → Fl :=
  (sSeq t__law_shows_1 t__law_shows_2)
def F__law_shows : FS := fun a => noX (fnSem 3 3 g__law_shows a)
theorem sc__law_shows : FnScope ["film", "line", "rules", "every", "on", "show"] ["film", "line", "rules"] (defScope s__law_shows) := ⟨rfl, rfl, rfl, by decide +kernel, rfl, by decide +kernel, by decide +kernel⟩
theorem ok__law_shows {P : Program} {w : World} {K : PySem.W.Frag} {mg : PySem.Str → Option Value} {base : Heap} {f : Addr} {fd : FuncData} (m_int : mg "int" = none) (m_range : mg "range" = none) (C__law_fits : Cal P w K mg base 1 "_law_fits" 4 F__law_fits)
    (F : FunD K "_law_shows" "_law_shows" (defArgs s__law_shows) (defBody s__law_shows) (defScope s__law_shows) [] [] f fd) : FnG P w K mg base CX0 (1 + 1) f fd ["film", "line", "rules"] (spF K mg F__law_shows) := by
  have nd := sc__law_shows.nd
  exact FnG.of_body F sc__law_shows rfl rfl fun cdv A outer s H E hr hgd =>
    (sss_cons (ss_setLcF 3 [("on", 4)] rfl nd (sw_true rfl rfl rfl (by kernel_rfl)) (iv_range1 rfl m_range (ev_ix (w1 := false) (w2 := false) (ev_slot 0) ev_int)) (blkOk_by (by kernel_rfl)) rfl (fun _ _ _ _ _ => (gv_name 4 nd)) (fun _ _ _ _ _ => (tsv_one (tv_cmp (w1 := false) (w2 := false) op_le od_le (ev_op (w1 := false) (w2 := false) op_addA od_add (ev_slot 4) (ev_ix (w1 := false) (w2 := false) (ev_slot 1) ev_int)) (ev_ix (w1 := false) (w2 := false) (ev_slot 0) ev_int) (nomark _)))) (fun _ _ _ _ _ => (ev_tup (av_cons (ev_ty (w1 := false) call_int1 cd_int (av_cons (ev_slot 4) av_nil) rfl m_int) (av_cons (ev_ty (w1 := false) call_int1 cd_int (av_cons (ev_op (w1 := false) (w2 := false) op_addA od_add (ev_slot 4) (ev_ix (w1 := false) (w2 := false) (ev_slot 1) ev_int)) av_nil) rfl m_int) av_nil))))) (sss_one (ss_ret (ev_o (eo_lc [("show", 5)] rfl nd (iv_seq (w := false) (ev_slot 3)) (blkOk_by (by kernel_rfl)) rfl (fun _ _ _ _ _ => (gv_name 5 nd)) (fun _ _ _ _ _ => (tsv_one (tv_val (w := false) (ev_call (C__law_fits.mono (by decide)) hr hgd (av_cons (ev_slot 0) (av_cons (ev_slot 1) (av_cons (ev_slot 2) (av_cons (ev_slot 5) av_nil)))))))) (fun _ _ _ _ _ => (ev_slot 5)))))))
abbrev s__law_early : Stmt := topS 58
def c__law_early_1 : AS := (oLc [7] (iSeq (eCall F__law_shows (aCons (eSlot 0) (aCons (eSlot 5) (aCons (eSlot 2) aNil))))) (gN 7) (bV (eOp dGe (eOp dIx (eSlot 7) (eC (.int 0))) (eSlot 4))) (eSlot 7))
def b__law_early_1 : List B → Fl := (sSeq (sSet 6 (eO c__law_early_1)) (sSeq (sIf (bV (eOp dEq (eSlot 6) (eO (oLst aNil)))) (sRet (eC .non)) sNx) (sSeq (sDo (eApp 3 (eOp dIx (eSlot 6) (eC (.int 0))))) (sSet 4 (eOp dAdd (eOp dIx (eOp dIx (eSlot 6) (eC (.int 0))) (eC (.int 1))) (eOp dIx (eSlot 2) (eC (.int 3))))))))
def t__law_early_1 : List B → Fl := (sPar [3, 4] (mOw (oLst aNil) (mVa (eC (.int 0)) mNil)))
def t__law_early_2 : List B → Fl := (sFor (iSeq (eSlot 1)) (gN 5) b__law_early_1)
def t__law_early_3 : List B → Fl := (sFz 3 (sRet (eSlot 3)))
def g__law_early : List B → Fl :=
  (sSeq t__law_early_1 (sSeq t__law_early_2 t__law_early_3))
def F__law_early : FS := fun a => noX (fnSem 3 5 g__law_early a)
theorem sc__law_early : FnScope ["film", "lines", "rules", "found", "tick", "line", "some", "show"] ["film", "lines", "rules"] (defScope s__law_early) := ⟨rfl, rfl, rfl, by decide +kernel, rfl, by decide +kernel, by decide +kernel⟩
theorem ok__law_early {P : Program} {w : World} {K : PySem.W.Frag} {mg : PySem.Str → Option Value} {base : Heap} {f : Addr} {fd : FuncData} (C__law_shows : Cal P w K mg base 2 "_law_shows" 3 F__law_shows)
    (F : FunD K "_law_early" "_law_early" (defArgs s__law_early) (defBody s__law_early) (defScope s__law_early) [] [] f fd) : FnG P w K mg base CX0 (2 + 1) f fd ["film", "lines", "rules"] (spF K mg F__law_early) := by
  have nd := sc__law_early.nd
  exact FnG.of_body F sc__law_early rfl rfl fun cdv A outer s H E hr hgd =>
    (sss_cons (ss_parU 3 4 (mv_ow (eo_lst av_nil) (mv_va ev_int mv_nil)) rfl nd) (sss_cons (ss_for PassesOwn.never rfl (iv_seq (w := false) (ev_slot 1)) (gv_name 5 nd) (sss_cons (ss_setLcF 6 [("show", 7)] rfl nd (sw_true rfl rfl rfl (by kernel_rfl)) (iv_seq (w := false) (ev_call (C__law_shows.mono (by decide)) hr hgd (av_cons (ev_slot 0) (av_cons (ev_slot 5) (av_cons (ev_slot 2) av_nil))))) (blkOk_by (by kernel_rfl)) rfl (fun _ _ _ _ _ => (gv_name 7 nd)) (fun _ _ _ _ _ => (tsv_one (tv_cmp (w1 := false) (w2 := false) op_ge od_ge (ev_ix (w1 := false) (w2 := false) (ev_slot 7) ev_int) (ev_slot 4) (nomark _)))) (fun _ _ _ _ _ => (ev_slot 7))) (sss_cons (ss_if (tv_cmp (w1 := false) (w2 := false) (op_eqA hr.units) od_eq (ev_slot 6) (ev_o (eo_lst av_nil)) (nomark _)) (sss_one (ss_ret ev_non)) sss_nil) (sss_cons (ss_do (w := false) (ev_app 3 (ev_ix (w1 := false) (w2 := false) (ev_slot 6) ev_int))) (sss_one (ss_set 4 (ev_op (w1 := false) (w2 := false) op_addA od_add (ev_ix (w1 := false) (w2 := false) (ev_ix (w1 := false) (w2 := false) (ev_slot 6) ev_int) ev_int) (ev_ix (w1 := false) (w2 := false) (ev_slot 2) ev_int)) nd)))))) (sss_one (ss_fz 3 (ss_ret (ev_slot 3))))))
abbrev s__law_is_plan : Stmt := topS 59
def c__law_is_plan_1 : AS := (oLc [7] (iSeq (eSlot 6)) (gN 7) bYes (eAnd (eUn (dIsi "int") (eSlot 7)) (eNot (eUn (dIsi "bool") (eSlot 7)))))
def b__law_is_plan_1 : List B → Fl := (sSeq (sIf (bOr (bNot (bV (eUn (dIsi "tuple") (eSlot 6)))) (bOr (bV (eOp dNe (eBlt dLen (aCons (eSlot 6) aNil)) (eC (.int 2)))) (bNot (bV (eBlt dAll (aCons (eO c__law_is_plan_1) aNil)))))) (sRet (eC (.bl false))) sNx) (sSeq (sIf (bOr (bNot (bV (eChain3 dLe dLt dLe (eC (.int 0)) (eOp dIx (eSlot 6) (eC (.int 0))) (eOp dIx (eSlot 6) (eC (.int 1))) (eC (.int 400))))) (bOr (bNot (bV (eCall F__law_fits (aCons (eSlot 0) (aCons (eSlot 5) (aCons (eSlot 2) (aCons (eSlot 6) aNil))))))) (bAnd (bV (eOp dIsNot (eSlot 4) (eC .non))) (bV (eOp dLt (eOp dIx (eSlot 6) (eC (.int 0))) (eOp dAdd (eSlot 4) (eOp dIx (eSlot 2) (eC (.int 3))))))))) (sRet (eC (.bl false))) sNx) (sSet 4 (eOp dIx (eSlot 6) (eC (.int 1))))))
def t__law_is_plan_1 : List B → Fl := (sIf (bOr (bNot (bV (eUn (dIsi "tuple") (eSlot 3)))) (bV (eOp dNe (eBlt dLen (aCons (eSlot 3) aNil)) (eBlt dLen (aCons (eSlot 1) aNil))))) (sRet (eC (.bl false))) sNx)
def t__law_is_plan_2 : List B → Fl := (sSet 4 (eC .non))
def t__law_is_plan_3 : List B → Fl := (sFor (iZip' (eSlot 1) (eSlot 3)) (gT (gsCons (gN 5) (gsCons (gN 6) gsNil))) b__law_is_plan_1)
def t__law_is_plan_4 : List B → Fl := (sRet (eC (.bl true)))
def g__law_is_plan : List B → Fl :=
  (sSeq t__law_is_plan_1 (sSeq t__law_is_plan_2 (sSeq t__law_is_plan_3 t__law_is_plan_4)))
def F__law_is_plan : FS := fun a => noX (fnSem 4 4 g__law_is_plan a)
theorem sc__law_is_plan : FnScope ["film", "lines", "rules", "value", "ahead", "line", "show", "tick"] ["film", "lines", "rules", "value"] (defScope s__law_is_plan) := ⟨rfl, rfl, rfl, by decide +kernel, rfl, by decide +kernel, by decide +kernel⟩
theorem ok__law_is_plan {P : Program} {w : World} {K : PySem.W.Frag} {mg : PySem.Str → Option Value} {base : Heap} {f : Addr} {fd : FuncData} (m_all : mg "all" = none) (m_bool : mg "bool" = none) (m_int : mg "int" = none) (m_isinstance : mg "isinstance" = none) (m_len : mg "len" = none) (m_tuple : mg "tuple" = none) (m_zip : mg "zip" = none) (C__law_fits : Cal P w K mg base 1 "_law_fits" 4 F__law_fits)
    (F : FunD K "_law_is_plan" "_law_is_plan" (defArgs s__law_is_plan) (defBody s__law_is_plan) (defScope s__law_is_plan) [] [] f fd) : FnG P w K mg base CX0 (1 + 1) f fd ["film", "lines", "rules", "value"] (spF K mg F__law_is_plan) := by
  have nd := sc__law_is_plan.nd
  exact FnG.of_body F sc__law_is_plan rfl rfl fun cdv A outer s H E hr hgd =>
    (sss_cons (ss_if (TW.tv (tw_or (tv_not (tv_val (w := false) (ev_isi (w1 := false) "tuple" (ev_slot 3) rfl m_isinstance rfl m_tuple))) (tw_or1 (tv_cmp (w1 := false) (w2 := false) (op_neA hr.units) od_ne (ev_blt (w1 := false) cr_len cd_len (av_cons (ev_slot 3) av_nil) rfl m_len) (ev_blt (w1 := false) cr_len cd_len (av_cons (ev_slot 1) av_nil) rfl m_len) (nomark _))))) (sss_one (ss_ret ev_bl)) sss_nil) (sss_cons (ss_set 4 ev_non nd) (sss_cons (ss_for PassesOwn.never rfl (iv_zip (w1 := false) (w2 := false) rfl m_zip (ev_slot 1) (ev_slot 3)) (gv_tup rfl (gvs_cons (gv_name 5 nd) (gvs_cons (gv_name 6 nd) gvs_nil)) (gsCons_len (gsCons_len gsNil_len))) (sss_cons (ss_if (TW.tv (tw_or (tv_not (tv_val (w := false) (ev_isi (w1 := false) "tuple" (ev_slot 6) rfl m_isinstance rfl m_tuple))) (tw_or (tv_cmp (w1 := false) (w2 := false) (op_neA hr.units) od_ne (ev_blt (w1 := false) cr_len cd_len (av_cons (ev_slot 6) av_nil) rfl m_len) ev_int (nomark _)) (tw_or1 (tv_not (tv_val (w := false) (ev_blt (w1 := false) (cr_all rfl) cd_all (av_cons (ev_o (eo_lc [("tick", 7)] rfl nd (iv_seq (w := false) (ev_slot 6)) (blkOk_by (by kernel_rfl)) rfl (fun _ _ _ _ _ => (gv_name 7 nd)) (fun _ _ _ _ _ => tsv_nil) (fun _ _ _ _ _ => (ev_and (w1 := false) (ev_isi (w1 := false) "int" (ev_slot 7) rfl m_isinstance rfl m_int) (ev_one (ev_not (w1 := false) (ev_isi (w1 := false) "bool" (ev_slot 7) rfl m_isinstance rfl m_bool))))))) av_nil) rfl m_all))))))) (sss_one (ss_ret ev_bl)) sss_nil) (sss_cons (ss_if (TW.tv (tw_or (tv_not (tv_chain3 (w2 := false) op_le od_le op_lt od_lt op_le od_le ev_int (ev_ix (w1 := false) (w2 := false) (ev_slot 6) ev_int) (ev_ix (w1 := false) (w2 := false) (ev_slot 6) ev_int) ev_int)) (tw_or (tv_not (tv_val (w := false) (ev_call (C__law_fits.mono (by decide)) hr hgd (av_cons (ev_slot 0) (av_cons (ev_slot 5) (av_cons (ev_slot 2) (av_cons (ev_slot 6) av_nil))))))) (tw_or1 (TW.tv (tw_and (tv_cmp (w1 := false) (w2 := false) op_isNot1 od_isNot (ev_slot 4) ev_non (nomark _)) (tw_and1 (tv_cmp (w1 := false) (w2 := false) op_lt od_lt (ev_ix (w1 := false) (w2 := false) (ev_slot 6) ev_int) (ev_op (w1 := false) (w2 := false) op_addA od_add (ev_slot 4) (ev_ix (w1 := false) (w2 := false) (ev_slot 2) ev_int)) (nomark _))))))))) (sss_one (ss_ret ev_bl)) sss_nil) (sss_one (ss_set 4 (ev_ix (w1 := false) (w2 := false) (ev_slot 6) ev_int) nd))))) (sss_one (ss_ret ev_bl)))))
abbrev s__law_is_full : Stmt := topS 60
def c__law_is_full_1 : AS := (oLc [10] (iSeq (eTup (aCons (eSlot 3) (aCons (eSlot 4) aNil)))) (gN 10) bYes (eAnd (eUn (dIsi "int") (eSlot 10)) (eNot (eUn (dIsi "bool") (eSlot 10)))))
def c__law_is_full_2 : AS := (oLc [11] (iSeq (eCall F__law_shows (aCons (eSlot 0) (aCons (eSlot 7) (aCons (eSlot 2) aNil))))) (gN 11) (bV (eOp dGe (eOp dIx (eSlot 11) (eC (.int 0))) (eSlot 6))) (eOp dIx (eSlot 11) (eC (.int 1))))
def b__law_is_full_1 : List B → Fl := (sSeq (sIf (bOr (bNot (bV (eUn (dIsi "int") (eSlot 8)))) (bOr (bV (eUn (dIsi "bool") (eSlot 8))) (bNot (bV (eChain dLe dLe (eC (.int 0)) (eSlot 8) (eC (.int 400))))))) (sRet (eC (.bl false))) sNx) (sSeq (sSet 9 (eO c__law_is_full_2)) (sSeq (sIf (bAnd (bV (eOp dNe (eSlot 9) (eO (oLst aNil)))) (bV (eOp dGt (eSlot 8) (eBlt dMinB (aCons (eSlot 9) aNil))))) (sRet (eC (.bl false))) sNx) (sSet 6 (eOp dAdd (eSlot 8) (eOp dIx (eSlot 2) (eC (.int 3))))))))
def c__law_is_full_3 : AS := (oLc [11] (iSeq (eCall F__law_shows (aCons (eSlot 0) (aCons (eOp dIx (eSlot 1) (eSlot 4)) (aCons (eSlot 2) aNil))))) (gN 11) (bV (eOp dGe (eOp dIx (eSlot 11) (eC (.int 0))) (eSlot 6))) (eSlot 11))
def t__law_is_full_1 : List B → Fl := (sIf (bOr (bNot (bV (eBlt dAll (aCons (eO c__law_is_full_1) aNil)))) (bNot (bV (eChain3 dLe dLe dLt (eC (.int 0)) (eSlot 3) (eSlot 4) (eBlt dLen (aCons (eSlot 1) aNil)))))) (sRet (eC (.bl false))) sNx)
def t__law_is_full_2 : List B → Fl := (sIf (bOr (bNot (bV (eUn (dIsi "tuple") (eSlot 5)))) (bV (eOp dNe (eBlt dLen (aCons (eSlot 5) aNil)) (eOp dSub (eSlot 4) (eSlot 3))))) (sRet (eC (.bl false))) sNx)
def t__law_is_full_3 : List B → Fl := (sSet 6 (eC (.int 0)))
def t__law_is_full_4 : List B → Fl := (sFor (iZip' (eSl (eSlot 1) (oAt (eSlot 3)) oNo) (eSlot 5)) (gT (gsCons (gN 7) (gsCons (gN 8) gsNil))) b__law_is_full_1)
def t__law_is_full_5 : List B → Fl := (sRet (eOp dEq (eO c__law_is_full_3) (eO (oLst aNil))))
def g__law_is_full : List B → Fl :=
  (sSeq t__law_is_full_1 (sSeq t__law_is_full_2 (sSeq t__law_is_full_3 (sSeq t__law_is_full_4 t__law_is_full_5))))
def F__law_is_full : FS := fun a => noX (fnSem 6 6 g__law_is_full a)
theorem sc__law_is_full : FnScope ["film", "lines", "rules", "first", "last", "bounds", "tick", "line", "bound", "some", "number", "show"] ["film", "lines", "rules", "first", "last", "bounds"] (defScope s__law_is_full) := ⟨rfl, rfl, rfl, by decide +kernel, rfl, by decide +kernel, by decide +kernel⟩
theorem ok__law_is_full {P : Program} {w : World} {K : PySem.W.Frag} {mg : PySem.Str → Option Value} {base : Heap} {f : Addr} {fd : FuncData} (m_all : mg "all" = none) (m_bool : mg "bool" = none) (m_int : mg "int" = none) (m_isinstance : mg "isinstance" = none) (m_len : mg "len" = none) (m_min : mg "min" = none) (m_tuple : mg "tuple" = none) (m_zip : mg "zip" = none) (C__law_shows : Cal P w K mg base 2 "_law_shows" 3 F__law_shows)
    (F : FunD K "_law_is_full" "_law_is_full" (defArgs s__law_is_full) (defBody s__law_is_full) (defScope s__law_is_full) [] [] f fd) : FnG P w K mg base CX0 (2 + 1) f fd ["film", "lines", "rules", "first", "last", "bounds"] (spF K mg F__law_is_full) := by
  have nd := sc__law_is_full.nd
  exact FnG.of_body F sc__law_is_full rfl rfl fun cdv A outer s H E hr hgd =>
    (sss_cons (ss_if (TW.tv (tw_or (tv_not (tv_val (w := false) (ev_blt (w1 := false) (cr_all rfl) cd_all (av_cons (ev_o (eo_lc [("number", 10)] rfl nd (iv_seq (w := false) (ev_tup (av_cons (ev_slot 3) (av_cons (ev_slot 4) av_nil)))) (blkOk_by (by kernel_rfl)) rfl (fun _ _ _ _ _ => (gv_name 10 nd)) (fun _ _ _ _ _ => tsv_nil) (fun _ _ _ _ _ => (ev_and (w1 := false) (ev_isi (w1 := false) "int" (ev_slot 10) rfl m_isinstance rfl m_int) (ev_one (ev_not (w1 := false) (ev_isi (w1 := false) "bool" (ev_slot 10) rfl m_isinstance rfl m_bool))))))) av_nil) rfl m_all))) (tw_or1 (tv_not (tv_chain3 (w2 := false) op_le od_le op_le od_le op_lt od_lt ev_int (ev_slot 3) (ev_slot 4) (ev_blt (w1 := false) cr_len cd_len (av_cons (ev_slot 1) av_nil) rfl m_len)))))) (sss_one (ss_ret ev_bl)) sss_nil) (sss_cons (ss_if (TW.tv (tw_or (tv_not (tv_val (w := false) (ev_isi (w1 := false) "tuple" (ev_slot 5) rfl m_isinstance rfl m_tuple))) (tw_or1 (tv_cmp (w1 := false) (w2 := false) (op_neA hr.units) od_ne (ev_blt (w1 := false) cr_len cd_len (av_cons (ev_slot 5) av_nil) rfl m_len) (ev_op (w1 := false) (w2 := false) op_sub od_sub (ev_slot 4) (ev_slot 3)) (nomark _))))) (sss_one (ss_ret ev_bl)) sss_nil) (sss_cons (ss_set 6 ev_int nd) (sss_cons (ss_for PassesOwn.never rfl (iv_zip (w1 := false) (w2 := false) rfl m_zip (ev_sl (w1 := false) (ev_slot 1) (ov_at (w := false) (ev_slot 3)) ov_no) (ev_slot 5)) (gv_tup rfl (gvs_cons (gv_name 7 nd) (gvs_cons (gv_name 8 nd) gvs_nil)) (gsCons_len (gsCons_len gsNil_len))) (sss_cons (ss_if (TW.tv (tw_or (tv_not (tv_val (w := false) (ev_isi (w1 := false) "int" (ev_slot 8) rfl m_isinstance rfl m_int))) (tw_or (tv_val (w := false) (ev_isi (w1 := false) "bool" (ev_slot 8) rfl m_isinstance rfl m_bool)) (tw_or1 (tv_not (tv_chain (w2 := false) op_le od_le op_le od_le ev_int (ev_slot 8) ev_int)))))) (sss_one (ss_ret ev_bl)) sss_nil) (sss_cons (ss_setLcF 9 [("show", 11)] rfl nd (sw_true rfl rfl rfl (by kernel_rfl)) (iv_seq (w := false) (ev_call (C__law_shows.mono (by decide)) hr hgd (av_cons (ev_slot 0) (av_cons (ev_slot 7) (av_cons (ev_slot 2) av_nil))))) (blkOk_by (by kernel_rfl)) rfl (fun _ _ _ _ _ => (gv_name 11 nd)) (fun _ _ _ _ _ => (tsv_one (tv_cmp (w1 := false) (w2 := false) op_ge od_ge (ev_ix (w1 := false) (w2 := false) (ev_slot 11) ev_int) (ev_slot 6) (nomark _)))) (fun _ _ _ _ _ => (ev_ix (w1 := false) (w2 := false) (ev_slot 11) ev_int))) (sss_cons (ss_if (TW.tv (tw_and (tv_cmp (w1 := false) (w2 := false) (op_neA hr.units) od_ne (ev_slot 9) (ev_o (eo_lst av_nil)) (nomark _)) (tw_and1 (tv_cmp (w1 := false) (w2 := false) op_gt od_gt (ev_slot 8) (ev_blt (w1 := false) (cr_minB rfl) cd_minB (av_cons (ev_slot 9) av_nil) rfl m_min) (nomark _))))) (sss_one (ss_ret ev_bl)) sss_nil) (sss_one (ss_set 6 (ev_op (w1 := false) (w2 := false) op_addA od_add (ev_slot 8) (ev_ix (w1 := false) (w2 := false) (ev_slot 2) ev_int)) nd)))))) (sss_one (ss_ret (ev_cmp (w1 := false) (w2 := false) (op_eqA hr.units) od_eq (ev_o (eo_lc [("show", 11)] rfl nd (iv_seq (w := false) (ev_call (C__law_shows.mono (by decide)) hr hgd (av_cons (ev_slot 0) (av_cons (ev_ix (w1 := false) (w2 := false) (ev_slot 1) (ev_slot 4)) (av_cons (ev_slot 2) av_nil))))) (blkOk_by (by kernel_rfl)) rfl (fun _ _ _ _ _ => (gv_name 11 nd)) (fun _ _ _ _ _ => (tsv_one (tv_cmp (w1 := false) (w2 := false) op_ge od_ge (ev_ix (w1 := false) (w2 := false) (ev_slot 11) ev_int) (ev_slot 6) (nomark _)))) (fun _ _ _ _ _ => (ev_slot 11)))) (ev_o (eo_lst av_nil)) (nomark _))))))))
abbrev s__law_is_due : Stmt := topS 62
def t__law_is_due_1 : List B → Fl := (sIf (bOr (bNot (bV (eUn (dIsi "tuple") (eSlot 3)))) (bOr (bV (eOp dEq (eSlot 3) (eTup aNil))) (bNot (bV (eUn (dIsi "str") (eOp dIx (eSlot 3) (eC (.int 0)))))))) (sRet (eC (.bl false))) sNx)
def t__law_is_due_2 : List B → Fl := (sIf (bV (eOp dEq (eOp dIx (eSlot 3) (eC (.int 0))) (eC (.str "plan")))) (sRet (eAnd (eOp dEq (eBlt dLen (aCons (eSlot 3) aNil)) (eC (.int 2))) (eCall F__law_is_plan (aCons (eSlot 0) (aCons (eSlot 1) (aCons (eSlot 2) (aCons (eOp dIx (eSlot 3) (eC (.int 1))) aNil))))))) sNx)
def t__law_is_due_3 : List B → Fl := (sRet (eAnd (eOp dEq (eOp dIx (eSlot 3) (eC (.int 0))) (eC (.str "full"))) (eAnd (eOp dEq (eBlt dLen (aCons (eSlot 3) aNil)) (eC (.int 4))) (eCall F__law_is_full (aCons (eSlot 0) (aCons (eSlot 1) (aCons (eSlot 2) (aCons (eOp dIx (eSlot 3) (eC (.int 1))) (aCons (eOp dIx (eSlot 3) (eC (.int 2))) (aCons (eOp dIx (eSlot 3) (eC (.int 3))) aNil))))))))))
def g__law_is_due : List B → Fl :=
  (sSeq t__law_is_due_1 (sSeq t__law_is_due_2 t__law_is_due_3))
def F__law_is_due : FS := fun a => noX (fnSem 4 0 g__law_is_due a)
theorem sc__law_is_due : FnScope ["film", "lines", "rules", "value"] ["film", "lines", "rules", "value"] (defScope s__law_is_due) := ⟨rfl, rfl, rfl, by decide +kernel, rfl, by decide +kernel, by decide +kernel⟩
theorem ok__law_is_due {P : Program} {w : World} {K : PySem.W.Frag} {mg : PySem.Str → Option Value} {base : Heap} {f : Addr} {fd : FuncData} (m_isinstance : mg "isinstance" = none) (m_len : mg "len" = none) (m_str : mg "str" = none) (m_tuple : mg "tuple" = none) (C__law_is_plan : Cal P w K mg base 2 "_law_is_plan" 4 F__law_is_plan) (C__law_is_full : Cal P w K mg base 3 "_law_is_full" 6 F__law_is_full)
    (F : FunD K "_law_is_due" "_law_is_due" (defArgs s__law_is_due) (defBody s__law_is_due) (defScope s__law_is_due) [] [] f fd) : FnG P w K mg base CX0 (3 + 1) f fd ["film", "lines", "rules", "value"] (spF K mg F__law_is_due) := by
  have nd := sc__law_is_due.nd
  exact FnG.of_body F sc__law_is_due rfl rfl fun cdv A outer s H E hr hgd =>
    (sss_cons (ss_if (TW.tv (tw_or (tv_not (tv_val (w := false) (ev_isi (w1 := false) "tuple" (ev_slot 3) rfl m_isinstance rfl m_tuple))) (tw_or (tv_cmp (w1 := false) (w2 := false) (op_eqA hr.units) od_eq (ev_slot 3) (ev_tup av_nil) (nomark _)) (tw_or1 (tv_not (tv_val (w := false) (ev_isi (w1 := false) "str" (ev_ix (w1 := false) (w2 := false) (ev_slot 3) ev_int) rfl m_isinstance rfl m_str))))))) (sss_one (ss_ret ev_bl)) sss_nil) (sss_cons (ss_if (tv_cmp (w1 := false) (w2 := false) (op_eqA hr.units) od_eq (ev_ix (w1 := false) (w2 := false) (ev_slot 3) ev_int) ev_str (nomark _)) (sss_one (ss_ret (ev_and (w1 := false) (ev_cmp (w1 := false) (w2 := false) (op_eqA hr.units) od_eq (ev_blt (w1 := false) cr_len cd_len (av_cons (ev_slot 3) av_nil) rfl m_len) ev_int (nomark _)) (ev_one (ev_call (C__law_is_plan.mono (by decide)) hr hgd (av_cons (ev_slot 0) (av_cons (ev_slot 1) (av_cons (ev_slot 2) (av_cons (ev_ix (w1 := false) (w2 := false) (ev_slot 3) ev_int) av_nil))))))))) sss_nil) (sss_one (ss_ret (ev_and (w1 := false) (ev_cmp (w1 := false) (w2 := false) (op_eqA hr.units) od_eq (ev_ix (w1 := false) (w2 := false) (ev_slot 3) ev_int) ev_str (nomark _)) (ev_and (w1 := false) (ev_cmp (w1 := false) (w2 := false) (op_eqA hr.units) od_eq (ev_blt (w1 := false) cr_len cd_len (av_cons (ev_slot 3) av_nil) rfl m_len) ev_int (nomark _)) (ev_one (ev_call (C__law_is_full.mono (by decide)) hr hgd (av_cons (ev_slot 0) (av_cons (ev_slot 1) (av_cons (ev_slot 2) (av_cons (ev_ix (w1 := false) (w2 := false) (ev_slot 3) ev_int) (av_cons (ev_ix (w1 := false) (w2 := false) (ev_slot 3) ev_int) (av_cons (ev_ix (w1 := false) (w2 := false) (ev_slot 3) ev_int) av_nil))))))))))))))
abbrev s__law_values : Stmt := topS 63
def c__law_values_1 : AS := (oLc [10] (iRange1 (eBlt dMaxB (aCons (eC (.int 0)) (aCons (eOp dSub (eSlot 5) (eSlot 4)) aNil)))) (gN 10) bYes (eBlt dInt (aCons (eCallB 0 F__law_take (aCons (eC (.int 20)) aNil)) aNil)))
def c__law_values_2 : AS := (oLc [11] (iSeq (eSlot 2)) (gN 11) bYes (eTup (aCons (eBlt dInt (aCons (eOp dIx (eSlot 11) (eC (.int 0))) aNil)) (aCons (eBlt dInt (aCons (eOp dAdd (eOp dAdd (eOp dIx (eSlot 11) (eC (.int 0))) (eOp dIx (eSlot 11) (eC (.int 2)))) (eCallB 0 F__law_take (aCons (eC (.int 2)) aNil))) aNil)) aNil))))
def c__law_values_3 : AS := (oLc [12, 13] (iSeq (eOp dIx (eSlot 1) (eC (.int 1)))) (gT (gsCons (gN 12) (gsCons (gN 13) gsNil))) bYes (eTup (aCons (eOp dAdd (eSlot 12) (eC (.int 1))) (aCons (eOp dAdd (eSlot 13) (eC (.int 1))) aNil))))
def c__law_values_4 : AS := (oLc [12, 13] (iSeq (eOp dIx (eSlot 1) (eC (.int 1)))) (gT (gsCons (gN 12) (gsCons (gN 13) gsNil))) bYes (eTup (aCons (eSlot 12) (aCons (eOp dAdd (eSlot 13) (eC (.int 1))) aNil))))
def c__law_values_5 : AS := (oLc [14] (iSeq (eOp dIx (eSlot 1) (eC (.int 3)))) (gN 14) bYes (eBlt dMaxB (aCons (eC (.int 0)) (aCons (eOp dSub (eSlot 14) (eC (.int 1))) aNil))))
def c__law_values_6 : AS := (oLc [14] (iSeq (eOp dIx (eSlot 1) (eC (.int 3)))) (gN 14) bYes (eOp dAdd (eSlot 14) (eC (.int 1))))
def t__law_values_1 : List B → Fl := (sSet 3 (eBlt dLen (aCons (eSlot 2) aNil)))
def t__law_values_2 : List B → Fl := (sPar [4, 5] (mVa (eBlt dInt (aCons (eCallB 0 F__law_take (aCons (eOp dAdd (eSlot 3) (eC (.int 1))) aNil)) aNil)) (mVa (eBlt dInt (aCons (eCallB 0 F__law_take (aCons (eOp dAdd (eSlot 3) (eC (.int 1))) aNil)) aNil)) mNil)))
def t__law_values_3 : List B → Fl := (sSet 6 (eBlt dTuple (aCons (eO c__law_values_1) aNil)))
def t__law_values_4 : List B → Fl := (sSet 7 (eBlt dTuple (aCons (eO c__law_values_2) aNil)))
def t__law_values_5 : List B → Fl := (sSetO 8 (oLst (aCons (eSlot 1) (aCons (eO (oBlt dList (aCons (eSlot 1) aNil))) (aCons (eOp dAdd (eSlot 1) (eTup (aCons (eC (.int 0)) aNil))) (aCons (eSl (eSlot 1) oNo (oAt (eC (.int 1)))) (aCons (eTup aNil) (aCons (eC .non) (aCons (eTup (aCons (eC (.str "plan")) (aCons (eSlot 7) aNil))) (aCons (eTup (aCons (eC (.str "plan")) (aCons (eO (oBlt dList (aCons (eSlot 7) aNil))) aNil))) (aCons (eTup (aCons (eC (.str "plan")) (aCons (eSl (eSlot 7) oNo (oAt (eUn dNeg (eC (.int 1))))) aNil))) aNil)))))))))))
def t__law_values_6 : List B → Fl := (sDo (eExt 8 (oLst (aCons (eTup (aCons (eC (.str "full")) (aCons (eSlot 4) (aCons (eSlot 5) (aCons (eSlot 6) aNil))))) (aCons (eTup (aCons (eC (.str "full")) (aCons (eSlot 5) (aCons (eSlot 5) (aCons (eTup aNil) aNil))))) (aCons (eTup (aCons (eC (.str "full")) (aCons (eSlot 4) (aCons (eSlot 5) aNil)))) (aCons (eTup (aCons (eC (.str "plan")) (aCons (eOp dMulA (eTup (aCons (eC (.bl true)) aNil)) (eSlot 3)) aNil))) aNil)))))))
def t__law_values_7 : List B → Fl := (sIf (bV (eOp dEq (eOp dIx (eSlot 1) (eC (.int 0))) (eC (.str "plan")))) (sDo (eExt 8 (oLst (aCons (eTup (aCons (eC (.str "plan")) (aCons (eBlt dTuple (aCons (eO c__law_values_4) aNil)) aNil))) (aCons (eTup (aCons (eC (.str "plan")) (aCons (eBlt dTuple (aCons (eO c__law_values_3) aNil)) aNil))) (aCons (eTup (aCons (eC (.str "plan")) (aCons (eUn dRevA (eOp dIx (eSlot 1) (eC (.int 1)))) aNil))) aNil)))))) (sSeq (sSet 9 (eBlt dTuple (aCons (eO c__law_values_5) aNil))) (sSeq (sDo (eExt 8 (oLst (aCons (eOp dAdd (eSl (eSlot 1) oNo (oAt (eC (.int 3)))) (eTup (aCons (eSlot 9) aNil))) (aCons (eOp dAdd (eSl (eSlot 1) oNo (oAt (eC (.int 3)))) (eTup (aCons (eBlt dTuple (aCons (eO c__law_values_6) aNil)) aNil))) (aCons (eOp dAdd (eSl (eSlot 1) oNo (oAt (eC (.int 3)))) (eTup (aCons (eO (oBlt dList (aCons (eOp dIx (eSlot 1) (eC (.int 3))) aNil))) aNil))) aNil)))))) (sDo (eExt 8 (oLst (aCons (eTup (aCons (eC (.str "full")) (aCons (eC (.bl true)) (aCons (eOp dIx (eSlot 1) (eC (.int 2))) (aCons (eOp dIx (eSlot 1) (eC (.int 3))) aNil))))) (aCons (eTup (aCons (eC (.str "full")) (aCons (eOp dIx (eSlot 1) (eC (.int 2))) (aCons (eOp dIx (eSlot 1) (eC (.int 2))) (aCons (eTup aNil) aNil))))) aNil))))))))
def t__law_values_8 : List B → Fl := (sFz 8 (sRet (eSlot 8)))
def g__law_values : List B → Fl :=
  (sSeq t__law_values_1 (sSeq t__law_values_2 (sSeq t__law_values_3 (sSeq t__law_values_4 (sSeq t__law_values_5 (sSeq t__law_values_6 (sSeq t__law_values_7 t__law_values_8)))))))
def F__law_values : FS := fun a => noX (fnSem 3 12 g__law_values a)
theorem sc__law_values : FnScope ["pot", "told", "lines", "many", "first", "last", "bounds", "plan", "some", "low", "place", "line", "on", "off", "bound"] ["pot", "told", "lines"] (defScope s__law_values) := ⟨rfl, rfl, rfl, by decide +kernel, rfl, by decide +kernel, by decide +kernel⟩
theorem ok__law_values {P : Program} {w : World} {K : PySem.W.Frag} {mg : PySem.Str → Option Value} {base : Heap} {f : Addr} {fd : FuncData} (m_int : mg "int" = none) (m_len : mg "len" = none) (m_list : mg "list" = none) (m_max : mg "max" = none) (m_range : mg "range" = none) (m_tuple : mg "tuple" = none) (C__law_take : Cal P w K mg base 1 "_law_take" 2 F__law_take)
    (F : FunD K "_law_values" "_law_values" (defArgs s__law_values) (defBody s__law_values) (defScope s__law_values) [] [] f fd) : FnG P w K mg base CX0 (1 + 1) f fd ["pot", "told", "lines"] (spF K mg F__law_values) := by
  have nd := sc__law_values.nd
  exact FnG.of_body F sc__law_values rfl rfl fun cdv A outer s H E hr hgd =>
    (sss_cons (ss_set 3 (ev_blt (w1 := false) cr_len cd_len (av_cons (ev_slot 2) av_nil) rfl m_len) nd) (sss_cons (ss_par 4 5 (mv_va (ev_ty (w1 := false) call_int1 cd_int (av_cons (ev_callB 0 (C__law_take.mono (by decide)) hr hgd (av_cons (ev_op (w1 := false) (w2 := false) op_addA od_add (ev_slot 3) ev_int) av_nil)) av_nil) rfl m_int) (mv_va (ev_ty (w1 := false) call_int1 cd_int (av_cons (ev_callB 0 (C__law_take.mono (by decide)) hr hgd (av_cons (ev_op (w1 := false) (w2 := false) op_addA od_add (ev_slot 3) ev_int) av_nil)) av_nil) rfl m_int) mv_nil)) rfl nd) (sss_cons (ss_set 6 (ev_ty (w1 := false) call_tuple_of cd_tuple (av_cons (ev_o (eo_lc [("place", 10)] rfl nd (iv_range1 rfl m_range (ev_blt (w1 := false) (cr_maxB rfl) cd_maxB (av_cons ev_int (av_cons (ev_op (w1 := false) (w2 := false) op_sub od_sub (ev_slot 5) (ev_slot 4)) av_nil)) rfl m_max)) (blkOk_by (by kernel_rfl)) rfl (fun _ _ _ _ _ => (gv_name 10 nd)) (fun _ _ _ _ _ => tsv_nil) (fun _ _ _ _ _ => (ev_ty (w1 := false) call_int1 cd_int (av_cons (ev_callB 0 (C__law_take.mono (by decide)) hr hgd (av_cons ev_int av_nil)) av_nil) rfl m_int)))) av_nil) rfl m_tuple) nd) (sss_cons (ss_set 7 (ev_ty (w1 := false) call_tuple_of cd_tuple (av_cons (ev_o (eo_lc [("line", 11)] rfl nd (iv_seq (w := false) (ev_slot 2)) (blkOk_by (by kernel_rfl)) rfl (fun _ _ _ _ _ => (gv_name 11 nd)) (fun _ _ _ _ _ => tsv_nil) (fun _ _ _ _ _ => (ev_tup (av_cons (ev_ty (w1 := false) call_int1 cd_int (av_cons (ev_ix (w1 := false) (w2 := false) (ev_slot 11) ev_int) av_nil) rfl m_int) (av_cons (ev_ty (w1 := false) call_int1 cd_int (av_cons (ev_op (w1 := false) (w2 := false) op_addA od_add (ev_op (w1 := false) (w2 := false) op_addA od_add (ev_ix (w1 := false) (w2 := false) (ev_slot 11) ev_int) (ev_ix (w1 := false) (w2 := false) (ev_slot 11) ev_int)) (ev_callB 0 (C__law_take.mono (by decide)) hr hgd (av_cons ev_int av_nil))) av_nil) rfl m_int) av_nil)))))) av_nil) rfl m_tuple) nd) (sss_cons (ss_setO 8 (eo_lst (av_cons (ev_slot 1) (av_cons (ev_o (eo_ty (w1 := false) call_list_of co_list (av_cons (ev_slot 1) av_nil) rfl m_list)) (av_cons (ev_op (w1 := false) (w2 := false) op_addA od_add (ev_slot 1) (ev_tup (av_cons ev_int av_nil))) (av_cons (ev_sl (w1 := false) (ev_slot 1) ov_no (ov_at (w := false) ev_int)) (av_cons (ev_tup av_nil) (av_cons ev_non (av_cons (ev_tup (av_cons ev_str (av_cons (ev_slot 7) av_nil))) (av_cons (ev_tup (av_cons ev_str (av_cons (ev_o (eo_ty (w1 := false) call_list_of co_list (av_cons (ev_slot 7) av_nil) rfl m_list)) av_nil))) (av_cons (ev_tup (av_cons ev_str (av_cons (ev_sl (w1 := false) (ev_slot 7) ov_no (ov_at (w := false) (ev_un (w1 := false) un_neg ud_neg ev_int))) av_nil))) av_nil)))))))))) nd) (sss_cons (ss_do (w := false) (ev_ext 8 (eo_lst (av_cons (ev_tup (av_cons ev_str (av_cons (ev_slot 4) (av_cons (ev_slot 5) (av_cons (ev_slot 6) av_nil))))) (av_cons (ev_tup (av_cons ev_str (av_cons (ev_slot 5) (av_cons (ev_slot 5) (av_cons (ev_tup av_nil) av_nil))))) (av_cons (ev_tup (av_cons ev_str (av_cons (ev_slot 4) (av_cons (ev_slot 5) av_nil)))) (av_cons (ev_tup (av_cons ev_str (av_cons (ev_op (w1 := false) (w2 := false) op_mulA od_mulA (ev_tup (av_cons ev_bl av_nil)) (ev_slot 3)) av_nil))) av_nil))))))) (sss_cons (ss_if (tv_cmp (w1 := false) (w2 := false) (op_eqA hr.units) od_eq (ev_ix (w1 := false) (w2 := false) (ev_slot 1) ev_int) ev_str (nomark _)) (sss_one (ss_do (w := false) (ev_ext 8 (eo_lst (av_cons (ev_tup (av_cons ev_str (av_cons (ev_ty (w1 := false) call_tuple_of cd_tuple (av_cons (ev_o (eo_lc [("on", 12), ("off", 13)] rfl nd (iv_seq (w := false) (ev_ix (w1 := false) (w2 := false) (ev_slot 1) ev_int)) (blkOk_by (by kernel_rfl)) rfl (fun _ _ _ _ _ => (gv_tup rfl (gvs_cons (gv_name 12 nd) (gvs_cons (gv_name 13 nd) gvs_nil)) (gsCons_len (gsCons_len gsNil_len)))) (fun _ _ _ _ _ => tsv_nil) (fun _ _ _ _ _ => (ev_tup (av_cons (ev_slot 12) (av_cons (ev_op (w1 := false) (w2 := false) op_addA od_add (ev_slot 13) ev_int) av_nil)))))) av_nil) rfl m_tuple) av_nil))) (av_cons (ev_tup (av_cons ev_str (av_cons (ev_ty (w1 := false) call_tuple_of cd_tuple (av_cons (ev_o (eo_lc [("on", 12), ("off", 13)] rfl nd (iv_seq (w := false) (ev_ix (w1 := false) (w2 := false) (ev_slot 1) ev_int)) (blkOk_by (by kernel_rfl)) rfl (fun _ _ _ _ _ => (gv_tup rfl (gvs_cons (gv_name 12 nd) (gvs_cons (gv_name 13 nd) gvs_nil)) (gsCons_len (gsCons_len gsNil_len)))) (fun _ _ _ _ _ => tsv_nil) (fun _ _ _ _ _ => (ev_tup (av_cons (ev_op (w1 := false) (w2 := false) op_addA od_add (ev_slot 12) ev_int) (av_cons (ev_op (w1 := false) (w2 := false) op_addA od_add (ev_slot 13) ev_int) av_nil)))))) av_nil) rfl m_tuple) av_nil))) (av_cons (ev_tup (av_cons ev_str (av_cons (ev_revA (w1 := false) (ev_ix (w1 := false) (w2 := false) (ev_slot 1) ev_int)) av_nil))) av_nil))))))) (sss_cons (ss_set 9 (ev_ty (w1 := false) call_tuple_of cd_tuple (av_cons (ev_o (eo_lc [("bound", 14)] rfl nd (iv_seq (w := false) (ev_ix (w1 := false) (w2 := false) (ev_slot 1) ev_int)) (blkOk_by (by kernel_rfl)) rfl (fun _ _ _ _ _ => (gv_name 14 nd)) (fun _ _ _ _ _ => tsv_nil) (fun _ _ _ _ _ => (ev_blt (w1 := false) (cr_maxB rfl) cd_maxB (av_cons ev_int (av_cons (ev_op (w1 := false) (w2 := false) op_sub od_sub (ev_slot 14) ev_int) av_nil)) rfl m_max)))) av_nil) rfl m_tuple) nd) (sss_cons (ss_do (w := false) (ev_ext 8 (eo_lst (av_cons (ev_op (w1 := false) (w2 := false) op_addA od_add (ev_sl (w1 := false) (ev_slot 1) ov_no (ov_at (w := false) ev_int)) (ev_tup (av_cons (ev_slot 9) av_nil))) (av_cons (ev_op (w1 := false) (w2 := false) op_addA od_add (ev_sl (w1 := false) (ev_slot 1) ov_no (ov_at (w := false) ev_int)) (ev_tup (av_cons (ev_ty (w1 := false) call_tuple_of cd_tuple (av_cons (ev_o (eo_lc [("bound", 14)] rfl nd (iv_seq (w := false) (ev_ix (w1 := false) (w2 := false) (ev_slot 1) ev_int)) (blkOk_by (by kernel_rfl)) rfl (fun _ _ _ _ _ => (gv_name 14 nd)) (fun _ _ _ _ _ => tsv_nil) (fun _ _ _ _ _ => (ev_op (w1 := false) (w2 := false) op_addA od_add (ev_slot 14) ev_int)))) av_nil) rfl m_tuple) av_nil))) (av_cons (ev_op (w1 := false) (w2 := false) op_addA od_add (ev_sl (w1 := false) (ev_slot 1) ov_no (ov_at (w := false) ev_int)) (ev_tup (av_cons (ev_o (eo_ty (w1 := false) call_list_of co_list (av_cons (ev_ix (w1 := false) (w2 := false) (ev_slot 1) ev_int) av_nil) rfl m_list)) av_nil))) av_nil)))))) (sss_one (ss_do (w := false) (ev_ext 8 (eo_lst (av_cons (ev_tup (av_cons ev_str (av_cons ev_bl (av_cons (ev_ix (w1 := false) (w2 := false) (ev_slot 1) ev_int) (av_cons (ev_ix (w1 := false) (w2 := false) (ev_slot 1) ev_int) av_nil))))) (av_cons (ev_tup (av_cons ev_str (av_cons (ev_ix (w1 := false) (w2 := false) (ev_slot 1) ev_int) (av_cons (ev_ix (w1 := false) (w2 := false) (ev_slot 1) ev_int) (av_cons (ev_tup av_nil) av_nil))))) av_nil))))))))) (sss_one (ss_fz 8 (ss_ret (ev_slot 8)))))))))))
abbrev s_are_shown : Stmt := topS 45
def b_are_shown_1 : List B → Fl := (sSeq (sSet 8 (eCall F_first_from (aCons (eSlot 0) (aCons (eSlot 6) (aCons (eSlot 2) (aCons (eSlot 5) aNil)))))) (sSeq (sIf (bAnd (bV (eOp dIsNot (eSlot 8) (eC .non))) (bV (eOp dGt (eSlot 7) (eOp dIx (eSlot 8) (eC (.int 1)))))) (sRet (eC (.bl false))) sNx) (sSet 5 (eOp dAdd (eSlot 7) (eOp dIx (eSlot 2) (eC (.int 3)))))))
def t_are_shown_1 : List B → Fl := (sSet 5 (eC (.int 0)))
def t_are_shown_2 : List B → Fl := (sFor (iZip' (eSl (eSlot 1) (oAt (eSlot 3)) oNo) (eSlot 4)) (gT (gsCons (gN 6) (gsCons (gN 7) gsNil))) b_are_shown_1)
def t_are_shown_3 : List B → Fl := (sRet (eC (.bl true)))
def g_are_shown : List B → Fl :=
  (sSeq t_are_shown_1 (sSeq t_are_shown_2 t_are_shown_3))
def F_are_shown : FS := fun a => noX (fnSem 5 4 g_are_shown a)
theorem sc_are_shown : FnScope ["film", "lines", "rules", "first", "bounds", "tick", "line", "bound", "show"] ["film", "lines", "rules", "first", "bounds"] (defScope s_are_shown) := ⟨rfl, rfl, rfl, by decide +kernel, rfl, by decide +kernel, by decide +kernel⟩
theorem ok_are_shown {P : Program} {w : World} {K : PySem.W.Frag} {mg : PySem.Str → Option Value} {base : Heap} {f : Addr} {fd : FuncData} (m_zip : mg "zip" = none) (C_first_from : Cal P w K mg base 3 "first_from" 4 F_first_from)
    (F : FunD K "are_shown" "are_shown" (defArgs s_are_shown) (defBody s_are_shown) (defScope s_are_shown) [] [] f fd) : FnG P w K mg base CX0 (3 + 1) f fd ["film", "lines", "rules", "first", "bounds"] (spF K mg F_are_shown) := by
  have nd := sc_are_shown.nd
  exact FnG.of_body F sc_are_shown rfl rfl fun cdv A outer s H E hr hgd =>
    (sss_cons (ss_set 5 ev_int nd) (sss_cons (ss_for PassesOwn.never rfl (iv_zip (w1 := false) (w2 := false) rfl m_zip (ev_sl (w1 := false) (ev_slot 1) (ov_at (w := false) (ev_slot 3)) ov_no) (ev_slot 4)) (gv_tup rfl (gvs_cons (gv_name 6 nd) (gvs_cons (gv_name 7 nd) gvs_nil)) (gsCons_len (gsCons_len gsNil_len))) (sss_cons (ss_set 8 (ev_call (C_first_from.mono (by decide)) hr hgd (av_cons (ev_slot 0) (av_cons (ev_slot 6) (av_cons (ev_slot 2) (av_cons (ev_slot 5) av_nil))))) nd) (sss_cons (ss_if (TW.tv (tw_and (tv_cmp (w1 := false) (w2 := false) op_isNot1 od_isNot (ev_slot 8) ev_non (nomark _)) (tw_and1 (tv_cmp (w1 := false) (w2 := false) op_gt od_gt (ev_slot 7) (ev_ix (w1 := false) (w2 := false) (ev_slot 8) ev_int) (nomark _))))) (sss_one (ss_ret ev_bl)) sss_nil) (sss_one (ss_set 5 (ev_op (w1 := false) (w2 := false) op_addA od_add (ev_slot 7) (ev_ix (w1 := false) (w2 := false) (ev_slot 2) ev_int)) nd))))) (sss_one (ss_ret ev_bl))))
abbrev s_is_full : Stmt := topS 46
def t_is_full_1 : List B → Fl := (sUnp (eSlot 3) (gT (gsCons (gN 4) (gsCons (gN 5) (gsCons (gN 6) gsNil)))))
def t_is_full_2 : List B → Fl := (sIf (bOr (bNot (bV (eCall F_is_between (aCons (eSlot 5) (aCons (eC (.int 0)) (aCons (eOp dSub (eBlt dLen (aCons (eSlot 1) aNil)) (eC (.int 1))) aNil)))))) (bNot (bV (eCall F_is_between (aCons (eSlot 4) (aCons (eC (.int 0)) (aCons (eSlot 5) aNil))))))) (sRet (eC (.bl false))) sNx)
def t_is_full_3 : List B → Fl := (sIf (bOr (bNot (bV (eCall F_are_between (aCons (eSlot 6) (aCons (eC (.int 0)) (aCons (eC (.int 400)) aNil)))))) (bV (eOp dNe (eBlt dLen (aCons (eSlot 6) aNil)) (eOp dSub (eSlot 5) (eSlot 4))))) (sRet (eC (.bl false))) sNx)
def t_is_full_4 : List B → Fl := (sIf (bNot (bV (eCall F_are_shown (aCons (eSlot 0) (aCons (eSlot 1) (aCons (eSlot 2) (aCons (eSlot 4) (aCons (eSlot 6) aNil)))))))) (sRet (eC (.bl false))) sNx)
def t_is_full_5 : List B → Fl := (sSet 7 (eIf (bV (eOp dNe (eSlot 6) (eTup aNil))) (eOp dAdd (eOp dIx (eSlot 6) (eUn dNeg (eC (.int 1)))) (eOp dIx (eSlot 2) (eC (.int 3)))) (eC (.int 0))))
def t_is_full_6 : List B → Fl := (sRet (eOp dIs (eCall F_first_from (aCons (eSlot 0) (aCons (eOp dIx (eSlot 1) (eSlot 5)) (aCons (eSlot 2) (aCons (eSlot 7) aNil))))) (eC .non)))
def g_is_full : List B → Fl :=
  (sSeq t_is_full_1 (sSeq t_is_full_2 (sSeq t_is_full_3 (sSeq t_is_full_4 (sSeq t_is_full_5 t_is_full_6)))))
def F_is_full : FS := fun a => noX (fnSem 4 4 g_is_full a)
theorem sc_is_full : FnScope ["film", "lines", "rules", "value", "first", "last", "bounds", "tick"] ["film", "lines", "rules", "value"] (defScope s_is_full) := ⟨rfl, rfl, rfl, by decide +kernel, rfl, by decide +kernel, by decide +kernel⟩
theorem ok_is_full {P : Program} {w : World} {K : PySem.W.Frag} {mg : PySem.Str → Option Value} {base : Heap} {f : Addr} {fd : FuncData} (m_len : mg "len" = none) (g_MOST_TICK : ∃ t, mg "MOST_TICK" = some (.int 400 t)) (C_is_between : Cal P w K mg base 2 "is_between" 3 F_is_between) (C_are_between : Cal P w K mg base 3 "are_between" 3 F_are_between) (C_are_shown : Cal P w K mg base 4 "are_shown" 5 F_are_shown) (C_first_from : Cal P w K mg base 3 "first_from" 4 F_first_from)
    (F : FunD K "is_full" "is_full" (defArgs s_is_full) (defBody s_is_full) (defScope s_is_full) [] [] f fd) : FnG P w K mg base CX0 (4 + 1) f fd ["film", "lines", "rules", "value"] (spF K mg F_is_full) := by
  have nd := sc_is_full.nd
  exact FnG.of_body F sc_is_full rfl rfl fun cdv A outer s H E hr hgd =>
    (sss_cons (ss_unp (ev_slot 3) (gv_tup rfl (gvs_cons (gv_name 4 nd) (gvs_cons (gv_name 5 nd) (gvs_cons (gv_name 6 nd) gvs_nil))) (gsCons_len (gsCons_len (gsCons_len gsNil_len))))) (sss_cons (ss_if (TW.tv (tw_or (tv_not (tv_val (w := false) (ev_call (C_is_between.mono (by decide)) hr hgd (av_cons (ev_slot 5) (av_cons ev_int (av_cons (ev_op (w1 := false) (w2 := false) op_sub od_sub (ev_blt (w1 := false) cr_len cd_len (av_cons (ev_slot 1) av_nil) rfl m_len) ev_int) av_nil)))))) (tw_or1 (tv_not (tv_val (w := false) (ev_call (C_is_between.mono (by decide)) hr hgd (av_cons (ev_slot 4) (av_cons ev_int (av_cons (ev_slot 5) av_nil))))))))) (sss_one (ss_ret ev_bl)) sss_nil) (sss_cons (ss_if (TW.tv (tw_or (tv_not (tv_val (w := false) (ev_call (C_are_between.mono (by decide)) hr hgd (av_cons (ev_slot 6) (av_cons ev_int (av_cons (ev_gint rfl g_MOST_TICK) av_nil)))))) (tw_or1 (tv_cmp (w1 := false) (w2 := false) (op_neA hr.units) od_ne (ev_blt (w1 := false) cr_len cd_len (av_cons (ev_slot 6) av_nil) rfl m_len) (ev_op (w1 := false) (w2 := false) op_sub od_sub (ev_slot 5) (ev_slot 4)) (nomark _))))) (sss_one (ss_ret ev_bl)) sss_nil) (sss_cons (ss_if (tv_not (tv_val (w := false) (ev_call (C_are_shown.mono (by decide)) hr hgd (av_cons (ev_slot 0) (av_cons (ev_slot 1) (av_cons (ev_slot 2) (av_cons (ev_slot 4) (av_cons (ev_slot 6) av_nil)))))))) (sss_one (ss_ret ev_bl)) sss_nil) (sss_cons (ss_set 7 (ev_if (tv_cmp (w1 := false) (w2 := false) (op_neA hr.units) od_ne (ev_slot 6) (ev_tup av_nil) (nomark _)) (ev_op (w1 := false) (w2 := false) op_addA od_add (ev_ix (w1 := false) (w2 := false) (ev_slot 6) (ev_un (w1 := false) un_neg ud_neg ev_int)) (ev_ix (w1 := false) (w2 := false) (ev_slot 2) ev_int)) ev_int) nd) (sss_one (ss_ret (ev_cmp (w1 := false) (w2 := false) op_isN od_is (ev_call (C_first_from.mono (by decide)) hr hgd (av_cons (ev_slot 0) (av_cons (ev_ix (w1 := false) (w2 := false) (ev_slot 1) (ev_slot 5)) (av_cons (ev_slot 2) (av_cons (ev_slot 7) av_nil))))) ev_non (nomark _)))))))))
abbrev s_is_show : Stmt := topS 24
def g_is_show : List B → Fl :=
  (sRet (eAnd (eCall F_are_between (aCons (eSlot 0) (aCons (eC (.int 0)) (aCons (eC (.int 400)) aNil)))) (eAnd (eOp dEq (eBlt dLen (aCons (eSlot 0) aNil)) (eC (.int 2))) (eOp dLt (eOp dIx (eSlot 0) (eC (.int 0))) (eOp dIx (eSlot 0) (eC (.int 1)))))))
def F_is_show : FS := fun a => noX (fnSem 1 0 g_is_show a)
theorem sc_is_show : FnScope ["value"] ["value"] (defScope s_is_show) := ⟨rfl, rfl, rfl, by decide +kernel, rfl, by decide +kernel, by decide +kernel⟩
theorem ok_is_show {P : Program} {w : World} {K : PySem.W.Frag} {mg : PySem.Str → Option Value} {base : Heap} {f : Addr} {fd : FuncData} (m_len : mg "len" = none) (g_MOST_TICK : ∃ t, mg "MOST_TICK" = some (.int 400 t)) (C_are_between : Cal P w K mg base 3 "are_between" 3 F_are_between)
    (F : FunD K "is_show" "is_show" (defArgs s_is_show) (defBody s_is_show) (defScope s_is_show) [] [] f fd) : FnG P w K mg base CX0 (3 + 1) f fd ["value"] (spF K mg F_is_show) := by
  have nd := sc_is_show.nd
  exact FnG.of_body F sc_is_show rfl rfl fun cdv A outer s H E hr hgd =>
    (sss_one (ss_ret (ev_and (w1 := false) (ev_call (C_are_between.mono (by decide)) hr hgd (av_cons (ev_slot 0) (av_cons ev_int (av_cons (ev_gint rfl g_MOST_TICK) av_nil)))) (ev_and (w1 := false) (ev_cmp (w1 := false) (w2 := false) (op_eqA hr.units) od_eq (ev_blt (w1 := false) cr_len cd_len (av_cons (ev_slot 0) av_nil) rfl m_len) ev_int (nomark _)) (ev_one (ev_cmp (w1 := false) (w2 := false) op_lt od_lt (ev_ix (w1 := false) (w2 := false) (ev_slot 0) ev_int) (ev_ix (w1 := false) (w2 := false) (ev_slot 0) ev_int) (nomark _)))))))
abbrev s_is_plan_of : Stmt := topS 36
def c_is_plan_of_1 : AS := (oLc [2] (iSeq (eSlot 1)) (gN 2) bYes (eCall F_is_show (aCons (eSlot 2) aNil)))
def g_is_plan_of : List B → Fl :=
  (sRet (eAnd (eUn (dIsi "tuple") (eSlot 1)) (eAnd (eOp dEq (eBlt dLen (aCons (eSlot 1) aNil)) (eBlt dLen (aCons (eSlot 0) aNil))) (eBlt dAll (aCons (eO c_is_plan_of_1) aNil)))))
def F_is_plan_of : FS := fun a => noX (fnSem 2 1 g_is_plan_of a)
theorem sc_is_plan_of : FnScope ["lines", "value", "show"] ["lines", "value"] (defScope s_is_plan_of) := ⟨rfl, rfl, rfl, by decide +kernel, rfl, by decide +kernel, by decide +kernel⟩
theorem ok_is_plan_of {P : Program} {w : World} {K : PySem.W.Frag} {mg : PySem.Str → Option Value} {base : Heap} {f : Addr} {fd : FuncData} (m_all : mg "all" = none) (m_isinstance : mg "isinstance" = none) (m_len : mg "len" = none) (m_tuple : mg "tuple" = none) (C_is_show : Cal P w K mg base 4 "is_show" 1 F_is_show)
    (F : FunD K "is_plan_of" "is_plan_of" (defArgs s_is_plan_of) (defBody s_is_plan_of) (defScope s_is_plan_of) [] [] f fd) : FnG P w K mg base CX0 (4 + 1) f fd ["lines", "value"] (spF K mg F_is_plan_of) := by
  have nd := sc_is_plan_of.nd
  exact FnG.of_body F sc_is_plan_of rfl rfl fun cdv A outer s H E hr hgd =>
    (sss_one (ss_ret (ev_and (w1 := false) (ev_isi (w1 := false) "tuple" (ev_slot 1) rfl m_isinstance rfl m_tuple) (ev_and (w1 := false) (ev_cmp (w1 := false) (w2 := false) (op_eqA hr.units) od_eq (ev_blt (w1 := false) cr_len cd_len (av_cons (ev_slot 1) av_nil) rfl m_len) (ev_blt (w1 := false) cr_len cd_len (av_cons (ev_slot 0) av_nil) rfl m_len) (nomark _)) (ev_one (ev_blt (w1 := false) (cr_all rfl) cd_all (av_cons (ev_o (eo_lc [("show", 2)] rfl nd (iv_seq (w := false) (ev_slot 1)) (blkOk_by (by kernel_rfl)) rfl (fun _ _ _ _ _ => (gv_name 2 nd)) (fun _ _ _ _ _ => tsv_nil) (fun _ _ _ _ _ => (ev_call (C_is_show.mono (by decide)) hr hgd (av_cons (ev_slot 2) av_nil))))) av_nil) rfl m_all))))))
abbrev s_is_cut : Stmt := topS 27
def c_is_cut_1 : AS := (oLc [3] (iSeq (eOp dIx (eSlot 0) (eC (.int 1)))) (gN 3) bYes (eChain dLt dLt (eSlot 1) (eSlot 3) (eSlot 2)))
def g_is_cut : List B → Fl :=
  (sRet (eBlt dAny (aCons (eO c_is_cut_1) aNil)))
def F_is_cut : FS := fun a => noX (fnSem 3 1 g_is_cut a)
theorem sc_is_cut : FnScope ["film", "on", "off", "cut"] ["film", "on", "off"] (defScope s_is_cut) := ⟨rfl, rfl, rfl, by decide +kernel, rfl, by decide +kernel, by decide +kernel⟩
theorem ok_is_cut {P : Program} {w : World} {K : PySem.W.Frag} {mg : PySem.Str → Option Value} {base : Heap} {f : Addr} {fd : FuncData} (m_any : mg "any" = none)
    (F : FunD K "is_cut" "is_cut" (defArgs s_is_cut) (defBody s_is_cut) (defScope s_is_cut) [] [] f fd) : FnG P w K mg base CX0 (0 + 1) f fd ["film", "on", "off"] (spF K mg F_is_cut) := by
  have nd := sc_is_cut.nd
  exact FnG.of_body F sc_is_cut rfl rfl fun cdv A outer s H E hr hgd =>
    (sss_one (ss_ret (ev_blt (w1 := false) (cr_any rfl) cd_any (av_cons (ev_o (eo_lc [("cut", 3)] rfl nd (iv_seq (w := false) (ev_ix (w1 := false) (w2 := false) (ev_slot 0) ev_int)) (blkOk_by (by kernel_rfl)) rfl (fun _ _ _ _ _ => (gv_name 3 nd)) (fun _ _ _ _ _ => tsv_nil) (fun _ _ _ _ _ => (ev_chain (w2 := false) op_lt od_lt op_lt od_lt (ev_slot 1) (ev_slot 3) (ev_slot 2))))) av_nil) rfl m_any)))
abbrev s_suits : Stmt := topS 28
def t_suits_1 : List B → Fl := (sUnp (eSlot 3) (gT (gsCons (gN 4) (gsCons (gN 5) gsNil))))
def t_suits_2 : List B → Fl := (sUnp (eCall F_ons_of (aCons (eSlot 1) (aCons (eSlot 2) aNil))) (gT (gsCons (gN 6) (gsCons (gN 7) gsNil))))
def t_suits_3 : List B → Fl := (sIf (bOr (bNot (bV (eChain dLe dLe (eSlot 6) (eSlot 4) (eSlot 7)))) (bOr (bV (eOp dGt (eSlot 5) (eCall F_last_off (aCons (eSlot 0) (aCons (eSlot 1) (aCons (eSlot 2) aNil)))))) (bV (eOp dLt (eOp dSub (eSlot 5) (eSlot 4)) (eOp dIx (eSlot 1) (eC (.int 2))))))) (sRet (eC (.bl false))) sNx)
def t_suits_4 : List B → Fl := (sRet (eNot (eCall F_is_cut (aCons (eSlot 0) (aCons (eSlot 4) (aCons (eSlot 5) aNil))))))
def g_suits : List B → Fl :=
  (sSeq t_suits_1 (sSeq t_suits_2 (sSeq t_suits_3 t_suits_4)))
def F_suits : FS := fun a => noX (fnSem 4 4 g_suits a)
theorem sc_suits : FnScope ["film", "line", "rules", "show", "on", "off", "least", "most"] ["film", "line", "rules", "show"] (defScope s_suits) := ⟨rfl, rfl, rfl, by decide +kernel, rfl, by decide +kernel, by decide +kernel⟩
theorem ok_suits {P : Program} {w : World} {K : PySem.W.Frag} {mg : PySem.Str → Option Value} {base : Heap} {f : Addr} {fd : FuncData} (C_ons_of : Cal P w K mg base 1 "ons_of" 2 F_ons_of) (C_last_off : Cal P w K mg base 1 "last_off" 3 F_last_off) (C_is_cut : Cal P w K mg base 1 "is_cut" 3 F_is_cut)
    (F : FunD K "suits" "suits" (defArgs s_suits) (defBody s_suits) (defScope s_suits) [] [] f fd) : FnG P w K mg base CX0 (1 + 1) f fd ["film", "line", "rules", "show"] (spF K mg F_suits) := by
  have nd := sc_suits.nd
  exact FnG.of_body F sc_suits rfl rfl fun cdv A outer s H E hr hgd =>
    (sss_cons (ss_unp (ev_slot 3) (gv_tup rfl (gvs_cons (gv_name 4 nd) (gvs_cons (gv_name 5 nd) gvs_nil)) (gsCons_len (gsCons_len gsNil_len)))) (sss_cons (ss_unp (ev_call (C_ons_of.mono (by decide)) hr hgd (av_cons (ev_slot 1) (av_cons (ev_slot 2) av_nil))) (gv_tup rfl (gvs_cons (gv_name 6 nd) (gvs_cons (gv_name 7 nd) gvs_nil)) (gsCons_len (gsCons_len gsNil_len)))) (sss_cons (ss_if (TW.tv (tw_or (tv_not (tv_chain (w2 := false) op_le od_le op_le od_le (ev_slot 6) (ev_slot 4) (ev_slot 7))) (tw_or (tv_cmp (w1 := false) (w2 := false) op_gt od_gt (ev_slot 5) (ev_call (C_last_off.mono (by decide)) hr hgd (av_cons (ev_slot 0) (av_cons (ev_slot 1) (av_cons (ev_slot 2) av_nil)))) (nomark _)) (tw_or1 (tv_cmp (w1 := false) (w2 := false) op_lt od_lt (ev_op (w1 := false) (w2 := false) op_sub od_sub (ev_slot 5) (ev_slot 4)) (ev_ix (w1 := false) (w2 := false) (ev_slot 1) ev_int) (nomark _)))))) (sss_one (ss_ret ev_bl)) sss_nil) (sss_one (ss_ret (ev_not (w1 := false) (ev_call (C_is_cut.mono (by decide)) hr hgd (av_cons (ev_slot 0) (av_cons (ev_slot 4) (av_cons (ev_slot 5) av_nil))))))))))
abbrev s_wrong_of : Stmt := topS 38
def b_wrong_of_1 : List B → Fl := (sSeq (sIf (bNot (bV (eCall F_suits (aCons (eSlot 0) (aCons (eOp dIx (eSlot 1) (eSlot 4)) (aCons (eSlot 2) (aCons (eSlot 5) aNil))))))) (sRet (eTup (aCons (eSlot 4) (aCons (eC (.str "unfit")) aNil)))) sNx) (sIf (bAnd (bV (eOp dGt (eSlot 4) (eC (.int 0)))) (bV (eOp dLt (eOp dIx (eSlot 5) (eC (.int 0))) (eOp dAdd (eOp dIx (eOp dIx (eSlot 3) (eOp dSub (eSlot 4) (eC (.int 1)))) (eC (.int 1))) (eOp dIx (eSlot 2) (eC (.int 3))))))) (sRet (eTup (aCons (eSlot 4) (aCons (eC (.str "near")) aNil)))) sNx))
def t_wrong_of_1 : List B → Fl := (sFor (iEnum' (eSlot 3)) (gT (gsCons (gN 4) (gsCons (gN 5) gsNil))) b_wrong_of_1)
def t_wrong_of_2 : List B → Fl := (sRet (eC .non))
def g_wrong_of : List B → Fl :=
  (sSeq t_wrong_of_1 t_wrong_of_2)
def F_wrong_of : FS := fun a => noX (fnSem 4 2 g_wrong_of a)
theorem sc_wrong_of : FnScope ["film", "lines", "rules", "plan", "place", "show"] ["film", "lines", "rules", "plan"] (defScope s_wrong_of) := ⟨rfl, rfl, rfl, by decide +kernel, rfl, by decide +kernel, by decide +kernel⟩
theorem ok_wrong_of {P : Program} {w : World} {K : PySem.W.Frag} {mg : PySem.Str → Option Value} {base : Heap} {f : Addr} {fd : FuncData} (m_enumerate : mg "enumerate" = none) (g_UNFIT : ∃ t, mg "UNFIT" = some (.str "unfit" t)) (g_NEAR : ∃ t, mg "NEAR" = some (.str "near" t)) (C_suits : Cal P w K mg base 2 "suits" 4 F_suits)
    (F : FunD K "wrong_of" "wrong_of" (defArgs s_wrong_of) (defBody s_wrong_of) (defScope s_wrong_of) [] [] f fd) : FnG P w K mg base CX0 (2 + 1) f fd ["film", "lines", "rules", "plan"] (spF K mg F_wrong_of) := by
  have nd := sc_wrong_of.nd
  exact FnG.of_body F sc_wrong_of rfl rfl fun cdv A outer s H E hr hgd =>
    (sss_cons (ss_for PassesOwn.never rfl (iv_enum (w := false) rfl m_enumerate (ev_slot 3)) (gv_tup rfl (gvs_cons (gv_name 4 nd) (gvs_cons (gv_name 5 nd) gvs_nil)) (gsCons_len (gsCons_len gsNil_len))) (sss_cons (ss_if (tv_not (tv_val (w := false) (ev_call (C_suits.mono (by decide)) hr hgd (av_cons (ev_slot 0) (av_cons (ev_ix (w1 := false) (w2 := false) (ev_slot 1) (ev_slot 4)) (av_cons (ev_slot 2) (av_cons (ev_slot 5) av_nil))))))) (sss_one (ss_ret (ev_tup (av_cons (ev_slot 4) (av_cons (ev_gstr rfl g_UNFIT) av_nil))))) sss_nil) (sss_one (ss_if (TW.tv (tw_and (tv_cmp (w1 := false) (w2 := false) op_gt od_gt (ev_slot 4) ev_int (nomark _)) (tw_and1 (tv_cmp (w1 := false) (w2 := false) op_lt od_lt (ev_ix (w1 := false) (w2 := false) (ev_slot 5) ev_int) (ev_op (w1 := false) (w2 := false) op_addA od_add (ev_ix (w1 := false) (w2 := false) (ev_ix (w1 := false) (w2 := false) (ev_slot 3) (ev_op (w1 := false) (w2 := false) op_sub od_sub (ev_slot 4) ev_int)) ev_int) (ev_ix (w1 := false) (w2 := false) (ev_slot 2) ev_int)) (nomark _))))) (sss_one (ss_ret (ev_tup (av_cons (ev_slot 4) (av_cons (ev_gstr rfl g_NEAR) av_nil))))) sss_nil)))) (sss_one (ss_ret ev_non)))
abbrev s_shows_can : Stmt := topS 47
def t_shows_can_1 : List B → Fl := (sDo (eCall F_check_rules (aCons (eSlot 0) (aCons (eSlot 1) (aCons (eSlot 2) aNil)))))
def t_shows_can_2 : List B → Fl := (sIf (bOr (bNot (bV (eUn (dIsi "tuple") (eSlot 3)))) (bOr (bV (eOp dNotIn (eBlt dLen (aCons (eSlot 3) aNil)) (eTup (aCons (eC (.int 2)) (aCons (eC (.int 4)) aNil))))) (bNot (bV (eUn (dIsi "str") (eOp dIx (eSlot 3) (eC (.int 0)))))))) (sRet (eC (.bl false))) sNx)
def t_shows_can_3 : List B → Fl := (sIf (bV (eOp dEq (eBlt dLen (aCons (eSlot 3) aNil)) (eC (.int 4)))) (sRet (eAnd (eOp dEq (eOp dIx (eSlot 3) (eC (.int 0))) (eC (.str "full"))) (eCall F_is_full (aCons (eSlot 0) (aCons (eSlot 1) (aCons (eSlot 2) (aCons (eSl (eSlot 3) (oAt (eC (.int 1))) oNo) aNil))))))) sNx)
def t_shows_can_4 : List B → Fl := (sRet (eAnd (eOp dEq (eOp dIx (eSlot 3) (eC (.int 0))) (eC (.str "plan"))) (eAnd (eCall F_is_plan_of (aCons (eSlot 1) (aCons (eOp dIx (eSlot 3) (eC (.int 1))) aNil))) (eOp dIs (eCall F_wrong_of (aCons (eSlot 0) (aCons (eSlot 1) (aCons (eSlot 2) (aCons (eOp dIx (eSlot 3) (eC (.int 1))) aNil))))) (eC .non)))))
def g_shows_can : List B → Fl :=
  (sSeq t_shows_can_1 (sSeq t_shows_can_2 (sSeq t_shows_can_3 t_shows_can_4)))
def F_shows_can : FS := fun a => noX (fnSem 4 0 g_shows_can a)
theorem sc_shows_can : FnScope ["film", "lines", "rules", "value"] ["film", "lines", "rules", "value"] (defScope s_shows_can) := ⟨rfl, rfl, rfl, by decide +kernel, rfl, by decide +kernel, by decide +kernel⟩
theorem ok_shows_can {P : Program} {w : World} {K : PySem.W.Frag} {mg : PySem.Str → Option Value} {base : Heap} {f : Addr} {fd : FuncData} (m_isinstance : mg "isinstance" = none) (m_len : mg "len" = none) (m_str : mg "str" = none) (m_tuple : mg "tuple" = none) (g_FOUR_plans : ∃ t, mg "FOUR_plans" = some (.int 4 t)) (g_FULL : ∃ t, mg "FULL" = some (.str "full" t)) (g_PLAN : ∃ t, mg "PLAN" = some (.str "plan" t)) (C_check_rules : Cal P w K mg base 7 "check_rules" 3 F_check_rules) (C_is_full : Cal P w K mg base 5 "is_full" 4 F_is_full) (C_is_plan_of : Cal P w K mg base 5 "is_plan_of" 2 F_is_plan_of) (C_wrong_of : Cal P w K mg base 3 "wrong_of" 4 F_wrong_of)
    (F : FunD K "shows_can" "shows_can" (defArgs s_shows_can) (defBody s_shows_can) (defScope s_shows_can) [] [] f fd) : FnG P w K mg base CX0 (7 + 1) f fd ["film", "lines", "rules", "value"] (spF K mg F_shows_can) := by
  have nd := sc_shows_can.nd
  exact FnG.of_body F sc_shows_can rfl rfl fun cdv A outer s H E hr hgd =>
    (sss_cons (ss_do (w := false) (ev_call (C_check_rules.mono (by decide)) hr hgd (av_cons (ev_slot 0) (av_cons (ev_slot 1) (av_cons (ev_slot 2) av_nil))))) (sss_cons (ss_if (TW.tv (tw_or (tv_not (tv_val (w := false) (ev_isi (w1 := false) "tuple" (ev_slot 3) rfl m_isinstance rfl m_tuple))) (tw_or (tv_cmp (w1 := false) (w2 := false) (op_notInA (Room.units65 hr)) od_notIn (ev_blt (w1 := false) cr_len cd_len (av_cons (ev_slot 3) av_nil) rfl m_len) (ev_tup (av_cons ev_int (av_cons (ev_gint rfl g_FOUR_plans) av_nil))) (by rfl)) (tw_or1 (tv_not (tv_val (w := false) (ev_isi (w1 := false) "str" (ev_ix (w1 := false) (w2 := false) (ev_slot 3) ev_int) rfl m_isinstance rfl m_str))))))) (sss_one (ss_ret ev_bl)) sss_nil) (sss_cons (ss_if (tv_cmp (w1 := false) (w2 := false) (op_eqA hr.units) od_eq (ev_blt (w1 := false) cr_len cd_len (av_cons (ev_slot 3) av_nil) rfl m_len) (ev_gint rfl g_FOUR_plans) (nomark _)) (sss_one (ss_ret (ev_and (w1 := false) (ev_cmp (w1 := false) (w2 := false) (op_eqA hr.units) od_eq (ev_ix (w1 := false) (w2 := false) (ev_slot 3) ev_int) (ev_gstr rfl g_FULL) (nomark _)) (ev_one (ev_call (C_is_full.mono (by decide)) hr hgd (av_cons (ev_slot 0) (av_cons (ev_slot 1) (av_cons (ev_slot 2) (av_cons (ev_sl (w1 := false) (ev_slot 3) (ov_at (w := false) ev_int) ov_no) av_nil))))))))) sss_nil) (sss_one (ss_ret (ev_and (w1 := false) (ev_cmp (w1 := false) (w2 := false) (op_eqA hr.units) od_eq (ev_ix (w1 := false) (w2 := false) (ev_slot 3) ev_int) (ev_gstr rfl g_PLAN) (nomark _)) (ev_and (w1 := false) (ev_call (C_is_plan_of.mono (by decide)) hr hgd (av_cons (ev_slot 1) (av_cons (ev_ix (w1 := false) (w2 := false) (ev_slot 3) ev_int) av_nil))) (ev_one (ev_cmp (w1 := false) (w2 := false) op_isN od_is (ev_call (C_wrong_of.mono (by decide)) hr hgd (av_cons (ev_slot 0) (av_cons (ev_slot 1) (av_cons (ev_slot 2) (av_cons (ev_ix (w1 := false) (w2 := false) (ev_slot 3) ev_int) av_nil))))) ev_non (nomark _))))))))))
abbrev s__law_of : Stmt := topS 51
def g__law_of : List B → Fl :=
  (sRet (eOp dIx (eSlot 1) (eCallB 0 F__law_take (aCons (eBlt dLen (aCons (eSlot 1) aNil)) aNil))))
def F__law_of : FS := fun a => noX (fnSem 2 0 g__law_of a)
theorem sc__law_of : FnScope ["pot", "some"] ["pot", "some"] (defScope s__law_of) := ⟨rfl, rfl, rfl, by decide +kernel, rfl, by decide +kernel, by decide +kernel⟩
theorem ok__law_of {P : Program} {w : World} {K : PySem.W.Frag} {mg : PySem.Str → Option Value} {base : Heap} {f : Addr} {fd : FuncData} (m_len : mg "len" = none) (C__law_take : Cal P w K mg base 1 "_law_take" 2 F__law_take)
    (F : FunD K "_law_of" "_law_of" (defArgs s__law_of) (defBody s__law_of) (defScope s__law_of) [] [] f fd) : FnG P w K mg base CX0 (1 + 1) f fd ["pot", "some"] (spF K mg F__law_of) := by
  have nd := sc__law_of.nd
  exact FnG.of_body F sc__law_of rfl rfl fun cdv A outer s H E hr hgd =>
    (sss_one (ss_ret (ev_ix (w1 := false) (w2 := false) (ev_slot 1) (ev_callB 0 (C__law_take.mono (by decide)) hr hgd (av_cons (ev_blt (w1 := false) cr_len cd_len (av_cons (ev_slot 1) av_nil) rfl m_len) av_nil)))))
abbrev s__law_wrong : Stmt := topS 61
def b__law_wrong_1 : List B → Fl := (sSeq (sIf (bNot (bV (eCall F__law_fits (aCons (eSlot 0) (aCons (eOp dIx (eSlot 1) (eSlot 4)) (aCons (eSlot 2) (aCons (eSlot 5) aNil))))))) (sRet (eTup (aCons (eBlt dInt (aCons (eSlot 4) aNil)) (aCons (eC (.str "unfit")) aNil)))) sNx) (sIf (bAnd (bV (eOp dGt (eSlot 4) (eC (.int 0)))) (bV (eOp dLt (eOp dIx (eSlot 5) (eC (.int 0))) (eOp dAdd (eOp dIx (eOp dIx (eSlot 3) (eOp dSub (eSlot 4) (eC (.int 1)))) (eC (.int 1))) (eOp dIx (eSlot 2) (eC (.int 3))))))) (sRet (eTup (aCons (eBlt dInt (aCons (eSlot 4) aNil)) (aCons (eC (.str "near")) aNil)))) sNx))
def t__law_wrong_1 : List B → Fl := (sFor (iEnum' (eSlot 3)) (gT (gsCons (gN 4) (gsCons (gN 5) gsNil))) b__law_wrong_1)
def t__law_wrong_2 : List B → Fl := (sRet (eC .non))
def g__law_wrong : List B → Fl :=
  (sSeq t__law_wrong_1 t__law_wrong_2)
def F__law_wrong : FS := fun a => noX (fnSem 4 2 g__law_wrong a)
theorem sc__law_wrong : FnScope ["film", "lines", "rules", "plan", "place", "show"] ["film", "lines", "rules", "plan"] (defScope s__law_wrong) := ⟨rfl, rfl, rfl, by decide +kernel, rfl, by decide +kernel, by decide +kernel⟩
theorem ok__law_wrong {P : Program} {w : World} {K : PySem.W.Frag} {mg : PySem.Str → Option Value} {base : Heap} {f : Addr} {fd : FuncData} (m_enumerate : mg "enumerate" = none) (m_int : mg "int" = none) (C__law_fits : Cal P w K mg base 1 "_law_fits" 4 F__law_fits)
    (F : FunD K "_law_wrong" "_law_wrong" (defArgs s__law_wrong) (defBody s__law_wrong) (defScope s__law_wrong) [] [] f fd) : FnG P w K mg base CX0 (1 + 1) f fd ["film", "lines", "rules", "plan"] (spF K mg F__law_wrong) := by
  have nd := sc__law_wrong.nd
  exact FnG.of_body F sc__law_wrong rfl rfl fun cdv A outer s H E hr hgd =>
    (sss_cons (ss_for PassesOwn.never rfl (iv_enum (w := false) rfl m_enumerate (ev_slot 3)) (gv_tup rfl (gvs_cons (gv_name 4 nd) (gvs_cons (gv_name 5 nd) gvs_nil)) (gsCons_len (gsCons_len gsNil_len))) (sss_cons (ss_if (tv_not (tv_val (w := false) (ev_call (C__law_fits.mono (by decide)) hr hgd (av_cons (ev_slot 0) (av_cons (ev_ix (w1 := false) (w2 := false) (ev_slot 1) (ev_slot 4)) (av_cons (ev_slot 2) (av_cons (ev_slot 5) av_nil))))))) (sss_one (ss_ret (ev_tup (av_cons (ev_ty (w1 := false) call_int1 cd_int (av_cons (ev_slot 4) av_nil) rfl m_int) (av_cons ev_str av_nil))))) sss_nil) (sss_one (ss_if (TW.tv (tw_and (tv_cmp (w1 := false) (w2 := false) op_gt od_gt (ev_slot 4) ev_int (nomark _)) (tw_and1 (tv_cmp (w1 := false) (w2 := false) op_lt od_lt (ev_ix (w1 := false) (w2 := false) (ev_slot 5) ev_int) (ev_op (w1 := false) (w2 := false) op_addA od_add (ev_ix (w1 := false) (w2 := false) (ev_ix (w1 := false) (w2 := false) (ev_slot 3) (ev_op (w1 := false) (w2 := false) op_sub od_sub (ev_slot 4) ev_int)) ev_int) (ev_ix (w1 := false) (w2 := false) (ev_slot 2) ev_int)) (nomark _))))) (sss_one (ss_ret (ev_tup (av_cons (ev_ty (w1 := false) call_int1 cd_int (av_cons (ev_slot 4) av_nil) rfl m_int) (av_cons ev_str av_nil))))) sss_nil)))) (sss_one (ss_ret ev_non)))
abbrev s_check_plan : Stmt := topS 37
def t_check_plan_1 : List B → Fl := (sDo (eCall F_check_rules (aCons (eSlot 0) (aCons (eSlot 1) (aCons (eSlot 2) aNil)))))
def t_check_plan_2 : List B → Fl := (sIf (bNot (bV (eCall F_is_plan_of (aCons (eSlot 1) (aCons (eSlot 3) aNil))))) (fun _ => .bad) sNx)
def g_check_plan : List B → Fl :=
  (sSeq t_check_plan_1 t_check_plan_2)
def F_check_plan : FS := fun a => noX (fnSem 4 0 g_check_plan a)
theorem sc_check_plan : FnScope ["film", "lines", "rules", "plan"] ["film", "lines", "rules", "plan"] (defScope s_check_plan) := ⟨rfl, rfl, rfl, by decide +kernel, rfl, by decide +kernel, by decide +kernel⟩
theorem ok_check_plan {P : Program} {w : World} {K : PySem.W.Frag} {mg : PySem.Str → Option Value} {base : Heap} {f : Addr} {fd : FuncData} (C_check_rules : Cal P w K mg base 7 "check_rules" 3 F_check_rules) (C_is_plan_of : Cal P w K mg base 5 "is_plan_of" 2 F_is_plan_of)
    (F : FunD K "check_plan" "check_plan" (defArgs s_check_plan) (defBody s_check_plan) (defScope s_check_plan) [] [] f fd) : FnG P w K mg base CX0 (7 + 1) f fd ["film", "lines", "rules", "plan"] (spF K mg F_check_plan) := by
  have nd := sc_check_plan.nd
  exact FnG.of_body F sc_check_plan rfl rfl fun cdv A outer s H E hr hgd =>
    (sss_cons (ss_do (w := false) (ev_call (C_check_rules.mono (by decide)) hr hgd (av_cons (ev_slot 0) (av_cons (ev_slot 1) (av_cons (ev_slot 2) av_nil))))) (sss_one (ss_if (tv_not (tv_val (w := false) (ev_call (C_is_plan_of.mono (by decide)) hr hgd (av_cons (ev_slot 1) (av_cons (ev_slot 3) av_nil))))) (sss_one ss_never) sss_nil)))
abbrev s_plan_wrong : Stmt := topS 39
def t_plan_wrong_1 : List B → Fl := (sDo (eCall F_check_plan (aCons (eSlot 0) (aCons (eSlot 1) (aCons (eSlot 2) (aCons (eSlot 3) aNil))))))
def t_plan_wrong_2 : List B → Fl := (sRet (eCall F_wrong_of (aCons (eSlot 0) (aCons (eSlot 1) (aCons (eSlot 2) (aCons (eSlot 3) aNil))))))
def g_plan_wrong : List B → Fl :=
  (sSeq t_plan_wrong_1 t_plan_wrong_2)
def F_plan_wrong : FS := fun a => noX (fnSem 4 0 g_plan_wrong a)
theorem sc_plan_wrong : FnScope ["film", "lines", "rules", "plan"] ["film", "lines", "rules", "plan"] (defScope s_plan_wrong) := ⟨rfl, rfl, rfl, by decide +kernel, rfl, by decide +kernel, by decide +kernel⟩
theorem ok_plan_wrong {P : Program} {w : World} {K : PySem.W.Frag} {mg : PySem.Str → Option Value} {base : Heap} {f : Addr} {fd : FuncData} (C_check_plan : Cal P w K mg base 8 "check_plan" 4 F_check_plan) (C_wrong_of : Cal P w K mg base 3 "wrong_of" 4 F_wrong_of)
    (F : FunD K "plan_wrong" "plan_wrong" (defArgs s_plan_wrong) (defBody s_plan_wrong) (defScope s_plan_wrong) [] [] f fd) : FnG P w K mg base CX0 (8 + 1) f fd ["film", "lines", "rules", "plan"] (spF K mg F_plan_wrong) := by
  have nd := sc_plan_wrong.nd
  exact FnG.of_body F sc_plan_wrong rfl rfl fun cdv A outer s H E hr hgd =>
    (sss_cons (ss_do (w := false) (ev_call (C_check_plan.mono (by decide)) hr hgd (av_cons (ev_slot 0) (av_cons (ev_slot 1) (av_cons (ev_slot 2) (av_cons (ev_slot 3) av_nil)))))) (sss_one (ss_ret (ev_call (C_wrong_of.mono (by decide)) hr hgd (av_cons (ev_slot 0) (av_cons (ev_slot 1) (av_cons (ev_slot 2) (av_cons (ev_slot 3) av_nil))))))))
abbrev s_is_right : Stmt := topS 40
def t_is_right_1 : List B → Fl := (sDo (eCall F_check_plan (aCons (eSlot 0) (aCons (eSlot 1) (aCons (eSlot 2) (aCons (eSlot 3) aNil))))))
def t_is_right_2 : List B → Fl := (sRet (eOp dIs (eCall F_wrong_of (aCons (eSlot 0) (aCons (eSlot 1) (aCons (eSlot 2) (aCons (eSlot 3) aNil))))) (eC .non)))
def g_is_right : List B → Fl :=
  (sSeq t_is_right_1 t_is_right_2)
def F_is_right : FS := fun a => noX (fnSem 4 0 g_is_right a)
theorem sc_is_right : FnScope ["film", "lines", "rules", "plan"] ["film", "lines", "rules", "plan"] (defScope s_is_right) := ⟨rfl, rfl, rfl, by decide +kernel, rfl, by decide +kernel, by decide +kernel⟩
theorem ok_is_right {P : Program} {w : World} {K : PySem.W.Frag} {mg : PySem.Str → Option Value} {base : Heap} {f : Addr} {fd : FuncData} (C_check_plan : Cal P w K mg base 8 "check_plan" 4 F_check_plan) (C_wrong_of : Cal P w K mg base 3 "wrong_of" 4 F_wrong_of)
    (F : FunD K "is_right" "is_right" (defArgs s_is_right) (defBody s_is_right) (defScope s_is_right) [] [] f fd) : FnG P w K mg base CX0 (8 + 1) f fd ["film", "lines", "rules", "plan"] (spF K mg F_is_right) := by
  have nd := sc_is_right.nd
  exact FnG.of_body F sc_is_right rfl rfl fun cdv A outer s H E hr hgd =>
    (sss_cons (ss_do (w := false) (ev_call (C_check_plan.mono (by decide)) hr hgd (av_cons (ev_slot 0) (av_cons (ev_slot 1) (av_cons (ev_slot 2) (av_cons (ev_slot 3) av_nil)))))) (sss_one (ss_ret (ev_cmp (w1 := false) (w2 := false) op_isN od_is (ev_call (C_wrong_of.mono (by decide)) hr hgd (av_cons (ev_slot 0) (av_cons (ev_slot 1) (av_cons (ev_slot 2) (av_cons (ev_slot 3) av_nil))))) ev_non (nomark _)))))
abbrev s__law_right : Stmt := topS 64
def b__law_right_1 : List B → Fl := (sIf (bV (eOp dNe (eBlt dRepr (aCons (eCallK F_shows_can [3, 2, 1, 0] (aCons (eSlot 6) (aCons (eSlot 2) (aCons (eSlot 3) (aCons (eSlot 1) aNil))))) aNil)) (eBlt dRepr (aCons (eCall F__law_is_due (aCons (eSlot 1) (aCons (eSlot 3) (aCons (eSlot 2) (aCons (eSlot 6) aNil))))) aNil)))) (sRet (eC (.bl false))) sNx)
def c__law_right_1 : AS := (oLc [12] (iSeq (eSlot 3)) (gN 12) bYes (eTup (aCons (eBlt dInt (aCons (eOp dIx (eSlot 12) (eC (.int 0))) aNil)) (aCons (eBlt dInt (aCons (eOp dAdd (eOp dIx (eSlot 12) (eC (.int 0))) (eOp dIx (eSlot 12) (eC (.int 2)))) aNil)) aNil))))
def b__law_right_2 : List B → Fl := (sSeq (sSetO 8 (oIf (bV (eOp dIsNot (eSlot 5) (eC .non))) (oBlt dList (aCons (eSlot 5) aNil)) c__law_right_1)) (sSeq (sIf (bV (eOp dNe (eSlotW 8) (eO (oLst aNil)))) (sSeq (sSet 9 (eCallB 0 F__law_take (aCons (eBlt dLen (aCons (eSlotW 8) aNil)) aNil))) (sSeq (sSet 10 (eBlt dInt (aCons (eCallB 0 F__law_take (aCons (eOp dIx (eSlot 1) (eC (.int 0))) aNil)) aNil))) (sPut 8 (eSlot 9) (eCallB 0 F__law_of (aCons (eO (oLst (aCons (eOp dIx (eSlotW 8) (eSlot 9)) (aCons (eTup (aCons (eSlot 10) (aCons (eBlt dInt (aCons (eOp dAdd (eOp dAdd (eSlot 10) (eC (.int 1))) (eCallB 0 F__law_take (aCons (eC (.int 5)) aNil))) aNil)) aNil))) aNil)))) aNil))))) sNx) (sSeq (sFz 8 (sSet 11 (eCall F__law_wrong (aCons (eSlot 1) (aCons (eSlot 3) (aCons (eSlot 2) (aCons (eSlot 8) aNil))))))) (sIf (bOr (bV (eOp dNe (eBlt dRepr (aCons (eCallK F_plan_wrong [3, 2, 1, 0] (aCons (eBlt dTuple (aCons (eSlotW 8) aNil)) (aCons (eSlot 2) (aCons (eSlot 3) (aCons (eSlot 1) aNil))))) aNil)) (eBlt dRepr (aCons (eSlot 11) aNil)))) (bV (eOp dNe (eBlt dRepr (aCons (eCallK F_is_right [3, 2, 1, 0] (aCons (eBlt dTuple (aCons (eSlotW 8) aNil)) (aCons (eSlot 2) (aCons (eSlot 3) (aCons (eSlot 1) aNil))))) aNil)) (eBlt dRepr (aCons (eOp dIs (eSlot 11) (eC .non)) aNil))))) (sRet (eC (.bl false))) sNx))))
def t__law_right_1 : List B → Fl := (sPar [1, 2] (mVa (eCallB 0 F__law_film (aCons (eC (.int 20)) aNil)) (mVa (eCallB 0 F__law_rules aNil) mNil)))
def t__law_right_2 : List B → Fl := (sSet 3 (eCallB 0 F__law_lines (aCons (eOp dIx (eSlot 1) (eC (.int 0))) (aCons (eC (.int 5)) aNil))))
def t__law_right_3 : List B → Fl := (sPar [4, 5] (mVa (eCallK F_can_told [2, 1, 0] (aCons (eSlot 2) (aCons (eSlot 3) (aCons (eSlot 1) aNil)))) (mVa (eCall F__law_early (aCons (eSlot 1) (aCons (eSlot 3) (aCons (eSlot 2) aNil)))) mNil)))
def t__law_right_4 : List B → Fl := (sIf (bOr (bV (eOp dNe (eOp dEq (eOp dIx (eSlot 4) (eC (.int 0))) (eC (.str "plan"))) (eOp dIsNot (eSlot 5) (eC .non)))) (bNot (bV (eCall F__law_is_due (aCons (eSlot 1) (aCons (eSlot 3) (aCons (eSlot 2) (aCons (eSlot 4) aNil)))))))) (sRet (eC (.bl false))) sNx)
def t__law_right_5 : List B → Fl := (sFor (iSeq (eCallB 0 F__law_values (aCons (eSlot 4) (aCons (eSlot 3) aNil)))) (gN 6) b__law_right_1)
def t__law_right_6 : List B → Fl := (sFor (iRange1 (eC (.int 3))) (gN 7) b__law_right_2)
def t__law_right_7 : List B → Fl := (sRet (eC (.bl true)))
def g__law_right : List B → Fl :=
  (sSeq t__law_right_1 (sSeq t__law_right_2 (sSeq t__law_right_3 (sSeq t__law_right_4 (sSeq t__law_right_5 (sSeq t__law_right_6 t__law_right_7))))))
def F__law_right : FS := fun a => noX (fnSem 1 12 g__law_right a)
theorem sc__law_right : FnScope ["pot", "film", "rules", "lines", "told", "soon", "value", "lap", "plan", "at", "on", "due", "line"] ["pot"] (defScope s__law_right) := ⟨rfl, rfl, rfl, by decide +kernel, rfl, by decide +kernel, by decide +kernel⟩
theorem ok__law_right {P : Program} {w : World} {K : PySem.W.Frag} {mg : PySem.Str → Option Value} {base : Heap} {f : Addr} {fd : FuncData} (m_int : mg "int" = none) (m_len : mg "len" = none) (m_list : mg "list" = none) (m_range : mg "range" = none) (m_repr : mg "repr" = none) (m_tuple : mg "tuple" = none) (C__law_film : Cal P w K mg base 2 "_law_film" 2 F__law_film) (C__law_rules : Cal P w K mg base 2 "_law_rules" 1 F__law_rules) (C__law_lines : Cal P w K mg base 2 "_law_lines" 3 F__law_lines) (C_can_told : Cal P w K mg base 8 "can_told" 3 F_can_told) (C__law_early : Cal P w K mg base 3 "_law_early" 3 F__law_early) (C__law_is_due : Cal P w K mg base 4 "_law_is_due" 4 F__law_is_due) (C__law_values : Cal P w K mg base 2 "_law_values" 3 F__law_values) (C_shows_can : Cal P w K mg base 8 "shows_can" 4 F_shows_can) (C__law_take : Cal P w K mg base 1 "_law_take" 2 F__law_take) (C__law_of : Cal P w K mg base 2 "_law_of" 2 F__law_of) (C__law_wrong : Cal P w K mg base 2 "_law_wrong" 4 F__law_wrong) (C_plan_wrong : Cal P w K mg base 9 "plan_wrong" 4 F_plan_wrong) (C_is_right : Cal P w K mg base 9 "is_right" 4 F_is_right) (CK_can_told__rules_lines_film : CalK P w K mg base 8 "can_told" ["rules", "lines", "film"] [2, 1, 0] F_can_told) (CK_shows_can__value_rules_lines_film : CalK P w K mg base 8 "shows_can" ["value", "rules", "lines", "film"] [3, 2, 1, 0] F_shows_can) (CK_plan_wrong__plan_rules_lines_film : CalK P w K mg base 9 "plan_wrong" ["plan", "rules", "lines", "film"] [3, 2, 1, 0] F_plan_wrong) (CK_is_right__plan_rules_lines_film : CalK P w K mg base 9 "is_right" ["plan", "rules", "lines", "film"] [3, 2, 1, 0] F_is_right)
    (F : FunD K "_law_right" "_law_right" (defArgs s__law_right) (defBody s__law_right) (defScope s__law_right) [] [] f fd) : FnG P w K mg base CX0 (9 + 1) f fd ["pot"] (spF K mg F__law_right) := by
  have nd := sc__law_right.nd
  exact FnG.of_body F sc__law_right rfl rfl fun cdv A outer s H E hr hgd =>
    (sss_cons (ss_par 1 2 (mv_va (ev_callB 0 (C__law_film.mono (by decide)) hr hgd (av_cons ev_int av_nil)) (mv_va (ev_callB 0 (C__law_rules.mono (by decide)) hr hgd av_nil) mv_nil)) rfl nd) (sss_cons (ss_set 3 (ev_callB 0 (C__law_lines.mono (by decide)) hr hgd (av_cons (ev_ix (w1 := false) (w2 := false) (ev_slot 1) ev_int) (av_cons ev_int av_nil))) nd) (sss_cons (ss_par 4 5 (mv_va (ev_callK (CK_can_told__rules_lines_film.mono (by decide)) hr hgd (kv_cons (ev_slot 2) (kv_cons (ev_slot 3) (kv_cons (ev_slot 1) kv_nil))) (len_aCons (len_aCons (len_aCons len_aNil)))) (mv_va (ev_call (C__law_early.mono (by decide)) hr hgd (av_cons (ev_slot 1) (av_cons (ev_slot 3) (av_cons (ev_slot 2) av_nil)))) mv_nil)) rfl nd) (sss_cons (ss_if (TW.tv (tw_or (tv_cmp (w1 := false) (w2 := false) (op_neA hr.units) od_ne (ev_cmp (w1 := false) (w2 := false) (op_eqA hr.units) od_eq (ev_ix (w1 := false) (w2 := false) (ev_slot 4) ev_int) ev_str (nomark _)) (ev_cmp (w1 := false) (w2 := false) op_isNot1 od_isNot (ev_slot 5) ev_non (nomark _)) (nomark _)) (tw_or1 (tv_not (tv_val (w := false) (ev_call (C__law_is_due.mono (by decide)) hr hgd (av_cons (ev_slot 1) (av_cons (ev_slot 3) (av_cons (ev_slot 2) (av_cons (ev_slot 4) av_nil)))))))))) (sss_one (ss_ret ev_bl)) sss_nil) (sss_cons (ss_for PassesOwn.never rfl (iv_seq (w := false) (ev_callB 0 (C__law_values.mono (by decide)) hr hgd (av_cons (ev_slot 4) (av_cons (ev_slot 3) av_nil)))) (gv_name 6 nd) (sss_one (ss_if (tv_cmp (w1 := false) (w2 := false) (op_neA hr.units) od_ne (ev_blt (w1 := false) (cr_repr hgd hr.units) cd_repr (av_cons (ev_callK (CK_shows_can__value_rules_lines_film.mono (by decide)) hr hgd (kv_cons (ev_slot 6) (kv_cons (ev_slot 2) (kv_cons (ev_slot 3) (kv_cons (ev_slot 1) kv_nil)))) (len_aCons (len_aCons (len_aCons (len_aCons len_aNil))))) av_nil) rfl m_repr) (ev_blt (w1 := false) (cr_repr hgd hr.units) cd_repr (av_cons (ev_call (C__law_is_due.mono (by decide)) hr hgd (av_cons (ev_slot 1) (av_cons (ev_slot 3) (av_cons (ev_slot 2) (av_cons (ev_slot 6) av_nil))))) av_nil) rfl m_repr) (nomark _)) (sss_one (ss_ret ev_bl)) sss_nil))) (sss_cons (ss_for PassesOwn.never rfl (iv_range1 rfl m_range ev_int) (gv_name 7 nd) (sss_cons (ss_setO 8 (eo_if (tv_cmp (w1 := false) (w2 := false) op_isNot1 od_isNot (ev_slot 5) ev_non (nomark _)) (eo_ty (w1 := false) call_list_of co_list (av_cons (ev_slot 5) av_nil) rfl m_list) (eo_lc [("line", 12)] rfl nd (iv_seq (w := false) (ev_slot 3)) (blkOk_by (by kernel_rfl)) rfl (fun _ _ _ _ _ => (gv_name 12 nd)) (fun _ _ _ _ _ => tsv_nil) (fun _ _ _ _ _ => (ev_tup (av_cons (ev_ty (w1 := false) call_int1 cd_int (av_cons (ev_ix (w1 := false) (w2 := false) (ev_slot 12) ev_int) av_nil) rfl m_int) (av_cons (ev_ty (w1 := false) call_int1 cd_int (av_cons (ev_op (w1 := false) (w2 := false) op_addA od_add (ev_ix (w1 := false) (w2 := false) (ev_slot 12) ev_int) (ev_ix (w1 := false) (w2 := false) (ev_slot 12) ev_int)) av_nil) rfl m_int) av_nil)))))) nd) (sss_cons (ss_if (tv_cmp (w1 := true) (w2 := false) (op_neA hr.units) od_ne (ev_slotW 8) (ev_o (eo_lst av_nil)) (nomark _)) (sss_cons (ss_set 9 (ev_callB 0 (C__law_take.mono (by decide)) hr hgd (av_cons (ev_blt (w1 := true) cr_len cd_len (av_cons (ev_slotW 8) av_nil) rfl m_len) av_nil)) nd) (sss_cons (ss_set 10 (ev_ty (w1 := false) call_int1 cd_int (av_cons (ev_callB 0 (C__law_take.mono (by decide)) hr hgd (av_cons (ev_ix (w1 := false) (w2 := false) (ev_slot 1) ev_int) av_nil)) av_nil) rfl m_int) nd) (sss_one (ss_put 8 (ev_slot 9) (ev_callB 0 (C__law_of.mono (by decide)) hr hgd (av_cons (ev_o (eo_lst (av_cons (ev_ix (w1 := true) (w2 := false) (ev_slotW 8) (ev_slot 9)) (av_cons (ev_tup (av_cons (ev_slot 10) (av_cons (ev_ty (w1 := false) call_int1 cd_int (av_cons (ev_op (w1 := false) (w2 := false) op_addA od_add (ev_op (w1 := false) (w2 := false) op_addA od_add (ev_slot 10) ev_int) (ev_callB 0 (C__law_take.mono (by decide)) hr hgd (av_cons ev_int av_nil))) av_nil) rfl m_int) av_nil))) av_nil)))) av_nil)))))) sss_nil) (sss_cons (ss_fz 8 (ss_set 11 (ev_call (C__law_wrong.mono (by decide)) hr hgd (av_cons (ev_slot 1) (av_cons (ev_slot 3) (av_cons (ev_slot 2) (av_cons (ev_slot 8) av_nil))))) nd)) (sss_one (ss_if (TW.tv (tw_or (tv_cmp (w1 := false) (w2 := false) (op_neA hr.units) od_ne (ev_blt (w1 := false) (cr_repr hgd hr.units) cd_repr (av_cons (ev_callK (CK_plan_wrong__plan_rules_lines_film.mono (by decide)) hr hgd (kv_cons (ev_ty (w1 := true) call_tuple_of cd_tuple (av_cons (ev_slotW 8) av_nil) rfl m_tuple) (kv_cons (ev_slot 2) (kv_cons (ev_slot 3) (kv_cons (ev_slot 1) kv_nil)))) (len_aCons (len_aCons (len_aCons (len_aCons len_aNil))))) av_nil) rfl m_repr) (ev_blt (w1 := false) (cr_repr hgd hr.units) cd_repr (av_cons (ev_slot 11) av_nil) rfl m_repr) (nomark _)) (tw_or1 (tv_cmp (w1 := false) (w2 := false) (op_neA hr.units) od_ne (ev_blt (w1 := false) (cr_repr hgd hr.units) cd_repr (av_cons (ev_callK (CK_is_right__plan_rules_lines_film.mono (by decide)) hr hgd (kv_cons (ev_ty (w1 := true) call_tuple_of cd_tuple (av_cons (ev_slotW 8) av_nil) rfl m_tuple) (kv_cons (ev_slot 2) (kv_cons (ev_slot 3) (kv_cons (ev_slot 1) kv_nil)))) (len_aCons (len_aCons (len_aCons (len_aCons len_aNil))))) av_nil) rfl m_repr) (ev_blt (w1 := false) (cr_repr hgd hr.units) cd_repr (av_cons (ev_cmp (w1 := false) (w2 := false) op_isN od_is (ev_slot 11) ev_non (nomark _)) av_nil) rfl m_repr) (nomark _))))) (sss_one (ss_ret ev_bl)) sss_nil)))))) (sss_one (ss_ret ev_bl))))))))
abbrev s_law : Stmt := topS 65
def c_law_1 : AS := (oLc [3] (iRange1 (eC (.int 3))) (gN 3) bYes (eCallB 2 F__law_right aNil))
def b_law_1 : List B → Fl := (sSeq (sSetO 2 (oCall F__law_pot (aCons (eSlot 0) (aCons (eSlot 1) aNil)))) (sIf (bNot (bV (eBlt dAll (aCons (eO c_law_1) aNil)))) (sRet (eC (.bl false))) sNx))
def t_law_1 : List B → Fl := (sFor (iSeq (eCall F__law_cells (aCons (eSlot 0) (aCons (eC (.int 3)) aNil)))) (gN 1) b_law_1)
def t_law_2 : List B → Fl := (sRet (eC (.bl true)))
def g_law : List B → Fl :=
  (sSeq t_law_1 t_law_2)
def F_law : FS := fun a => noX (fnSem 1 3 g_law a)
theorem sc_law : FnScope ["script", "place", "pot", "lap"] ["script"] (defScope s_law) := ⟨rfl, rfl, rfl, by decide +kernel, rfl, by decide +kernel, by decide +kernel⟩
theorem ok_law {P : Program} {w : World} {K : PySem.W.Frag} {mg : PySem.Str → Option Value} {base : Heap} {f : Addr} {fd : FuncData} (m_all : mg "all" = none) (m_range : mg "range" = none) (C__law_cells : Cal P w K mg base 1 "_law_cells" 2 F__law_cells) (C__law_pot : CalO P w K mg base 1 "_law_pot" 2 F__law_pot) (C__law_right : Cal P w K mg base 10 "_law_right" 1 F__law_right)
    (F : FunD K "law" "law" (defArgs s_law) (defBody s_law) (defScope s_law) [] [] f fd) : FnG P w K mg base CX0 (10 + 1) f fd ["script"] (spF K mg F_law) := by
  have nd := sc_law.nd
  exact FnG.of_body F sc_law rfl rfl fun cdv A outer s H E hr hgd =>
    (sss_cons (ss_for PassesOwn.never rfl (iv_seq (w := false) (ev_call (C__law_cells.mono (by decide)) hr hgd (av_cons (ev_slot 0) (av_cons ev_int av_nil)))) (gv_name 1 nd) (sss_cons (ss_setO 2 (eo_call (C__law_pot.mono (by decide)) hr hgd (av_cons (ev_slot 0) (av_cons (ev_slot 1) av_nil))) nd) (sss_one (ss_if (tv_not (tv_val (w := false) (ev_blt (w1 := false) (cr_all rfl) cd_all (av_cons (ev_o (eo_lc [("lap", 3)] rfl nd (iv_range1 rfl m_range ev_int) (blkOk_by (by kernel_rfl)) rfl (fun _ _ _ _ _ => (gv_name 3 nd)) (fun _ _ _ _ _ => tsv_nil) (fun _ _ _ _ _ => (ev_callB 2 (C__law_right.mono (by decide)) hr hgd av_nil)))) av_nil) rfl m_all))) (sss_one (ss_ret ev_bl)) sss_nil)))) (sss_one (ss_ret ev_bl)))
end My
namespace My
open PySem PySem.Spec PyProof.Rows L2 RT
theorem sz (n : Nat) (h : n ≤ 16777216) : n ≤ sizeLine := by rw [sizeLine_eq]; omega
@[simp] theorem sz0 : (0 : Nat) ≤ sizeLine := Nat.zero_le _
@[simp] theorem sz1 : (1 : Nat) ≤ sizeLine := by decide
@[simp] theorem sz2 : (2 : Nat) ≤ sizeLine := by decide
@[simp] theorem sz3 : (3 : Nat) ≤ sizeLine := by decide
@[simp] theorem sz4 : (4 : Nat) ≤ sizeLine := by decide
@[simp] theorem sz5 : (5 : Nat) ≤ sizeLine := by decide
def PotOk (m : Nat) (ds : List D) : Prop := ∃ o s c : Int, ds = [.int o, .int s, .int c] ∧ 0 ≤ c ∧ c ≤ m ∧ 0 ≤ s ∧ s < 2 ^ 62
theorem PotOk.mono {m m' : Nat} {ds : List D} (h : PotOk m ds) (k : m ≤ m') : PotOk m' ds := by
  obtain ⟨o, s, c, e, h1, h2, h3⟩ := h
  exact ⟨o, s, c, e, h1, by omega, h3⟩
theorem bits_lt {i : Int} {b : Nat} (h : i.natAbs < 2 ^ b) (h0 : 0 < b) : Builtin.Int.intBits i ≤ b := by
  unfold Builtin.Int.intBits
  split
  · omega
  · have := PySem.Flt.log2_lt_of h0 h
    omega
theorem powW {i : Int} {b : Nat} {n : Int} (h : i.natAbs < 2 ^ b) (h0 : 0 < b) (hn : 0 ≤ n) (hb : (b : Int) * n ≤ 2 ^ 27) : CPowW i n := by
  refine ⟨hn, Int.le_trans (Int.mul_le_mul_of_nonneg_right (by have := bits_lt h h0; omega) hn) hb⟩
theorem mul_bits {i j : Int} {a b : Nat} (ha : i.natAbs < 2 ^ a) (hb : j.natAbs < 2 ^ b) : (i * j).natAbs < 2 ^ (a + b) := wide_lt ha hb
theorem e_take {m : Nat} {ds : List D} {u : Int} (hp : PotOk m ds) (hm : m < 2 ^ 40) (hu : 0 < u) (hu2 : u < 2 ^ 60) : ∃ v ds', 0 ≤ v ∧ v < u ∧ PotOk (m + 1) ds' ∧ F__law_take [.ow true ds, .va (.int u)] = .ok (.int v, [.ow true ds', .va (.int u)]) := by
  obtain ⟨o, s, c, rfl, hc, hcm, hs, hs2⟩ := hp
  have hdiv : CDivW o u := L2.wide_div hu (b := 60) (by omega) (by decide) (by decide)
  by_cases ho : 0 < o
  · refine ⟨o % u, [.int (o / u), .int s, .int c], Int.emod_nonneg _ (by omega), Int.emod_lt_of_pos _ hu, ⟨_, _, _, rfl, hc, by omega, hs, hs2⟩, ?_⟩
    simp [F__law_take, fnSem, g__law_take, t__law_take_1, t__law_take_2, t__law_take_3, t__law_take_4, t__law_take_5, mergeB, L2.ixN, ho, hu, hdiv]
  · have hc2 : (c + 1).natAbs < 2 ^ 41 := by omega
    have hp : ∃ p : Int, ((L2.ixN 4 ((c + 1) % 4)).bind fun j => [D.int 2147483647, D.int 2147483629, D.int 2147483587, D.int 2147483579][j]?) = some (D.int p) ∧ 0 < p ∧ p < 2 ^ 31 := by
      have h5 : (c + 1) % 4 = 0 ∨ (c + 1) % 4 = 1 ∨ (c + 1) % 4 = 2 ∨ (c + 1) % 4 = 3 := by omega
      rcases h5 with h | h | h | h <;> rw [h] <;> refine ⟨_, rfl, by decide, by decide⟩
    obtain ⟨p, ep, hp0, hp1⟩ := hp
    have m1 : CMulW 132849 (c + 1) := wide_mul (a := 20) (b := 41) (by decide) hc2 (by decide) (by decide) (by decide)
    have b1 : (132849 * (c + 1)).natAbs < 2 ^ 61 := mul_bits (a := 20) (b := 41) (by decide) hc2
    have m2 : CMulW (132849 * (c + 1)) (c + 1) := wide_mul b1 hc2 (by decide) (by decide) (by decide)
    have b2 : (132849 * (c + 1) * (c + 1)).natAbs < 2 ^ 102 := mul_bits b1 hc2
    have b3 : (s + 132849 * (c + 1) * (c + 1) + 3493).natAbs < 2 ^ 103 := by omega
    have m3 : CPowW (s + 132849 * (c + 1) * (c + 1) + 3493) 3 := powW b3 (by decide) (by decide) (by decide)
    have m4 : CMulW 2695 (c + 1) := wide_mul (a := 20) (b := 41) (by decide) hc2 (by decide) (by decide) (by decide)
    have b4 : (2695 * (c + 1)).natAbs < 2 ^ 61 := mul_bits (a := 20) (b := 41) (by decide) hc2
    generalize hx : (s + 132849 * (c + 1) * (c + 1) + 3493) ^ 3 % p = x
    have hx1 : x.natAbs < 2 ^ 31 := by
      have := Int.emod_nonneg ((s + 132849 * (c + 1) * (c + 1) + 3493) ^ 3) (by omega : p ≠ 0)
      have := Int.emod_lt_of_pos ((s + 132849 * (c + 1) * (c + 1) + 3493) ^ 3) hp0
      omega
    have b5 : (x % 10007 + 2695 * (c + 1)).natAbs < 2 ^ 62 := by omega
    have m5 : CMulW x (x % 10007 + 2695 * (c + 1)) := wide_mul hx1 b5 (by decide) (by decide) (by decide)
    have d1 : ∀ z : Int, CDivW z 307 := fun z => L2.wide_div (b := 60) (by decide) (by decide) (by decide) (by decide)
    refine ⟨x * (x % 10007 + 2695 * (c + 1)) / 307 % u, [.int o, .int s, .int (c + 1)], Int.emod_nonneg _ (by omega), Int.emod_lt_of_pos _ hu, ⟨_, _, _, rfl, by omega, by omega, hs, hs2⟩, ?_⟩
    simp [L2.ixN] at ep
    simp [F__law_take, fnSem, g__law_take, t__law_take_1, t__law_take_2, t__law_take_3, t__law_take_4, t__law_take_5, mergeB, L2.ixN, ho, hu, ep, m1, m2, m3, hp0, m4, hx, m5, d1]
theorem e_pot (ns : List Int) {k : Int} (h0 : 0 ≤ k) (h1 : k < 63) : ∃ ds, PotOk 0 ds ∧ F__law_pot [.lst (ns.map D.int), .int k] = .ok ds := by
  have cell : ∃ c : Int, (eIf (bV (eOp dLt (eSlot 1) (eBlt dLen (aCons (eSlot 0) aNil)))) (eOp dIx (eSlot 0) (eSlot 1)) (eOp dAdd (eOp dAdd (eOp dMod (eBlt dInt (aCons (eBlt dSumA (aCons (eSl (eSlot 0) oNo (oAt (eC (.int 1)))) aNil)) aNil)) (eC (.int 1000003))) (eOp dMulA (eC (.int 3393)) (eSlot 1))) (eC (.int 7985)))) [.va (.lst (ns.map D.int)), .va (.int k), .un, .un, .un] = .ok (.int c, [.va (.lst (ns.map D.int)), .va (.int k), .un, .un, .un]) := by
    by_cases hlt : k < ns.length
    · have e : ixN ns.length k = some k.toNat := by unfold ixN; rw [if_pos h0, if_pos hlt]
      have hk2 : k.toNat < ns.length := by omega
      exact ⟨ns[k.toNat], by simp [hlt, e, hk2]⟩
    · have m1 : CMulW 3393 k := wide_mul (a := 20) (b := 20) (by decide) (by omega) (by decide) (by decide) (by decide)
      have e : dSum [.lst (List.take 1 (List.map D.int ns))] = some (.int (ns.take 1).sum) := by rw [← List.map_take, r_sumL]
      exact ⟨(ns.take 1).sum % 1000003 + 3393 * k + 7985, by simp [hlt, e, m1]⟩
  obtain ⟨c, hc⟩ := cell
  have p1 : CPowW 10 60 := powW (b := 4) (by decide) (by decide) (by decide) (by decide)
  have p2 : CPowW (10 ^ 60) 5 := powW (b := 200) (by decide +kernel) (by decide) (by decide) (by decide)
  have p3 : CPowW 10 18 := powW (b := 4) (by decide) (by decide) (by decide) (by decide)
  have p4 : (0 : Int) < (10 ^ 60) ^ 5 := by decide +kernel
  generalize ha : (if c < 0 then -c else c) = ab
  have hm : (ab % (10 ^ 60) ^ 5).natAbs < 2 ^ 1000 := by
    have h1 := Int.emod_nonneg ab (show ((10 : Int) ^ 60) ^ 5 ≠ 0 by omega)
    have h2 := Int.emod_lt_of_pos ab p4
    have h3 : ((10 : Int) ^ 60) ^ 5 < 2 ^ 1000 := by decide +kernel
    omega
  have m1 : ∀ b : Bool, CMulW (ab % (10 ^ 60) ^ 5) (if b = true then 1 else 0) := fun b => by
    refine wide_mul hm (b := 2) ?_ (by decide) (by decide) (by decide)
    cases b <;> decide
  generalize hs : c % 2305843009213693951 = sm
  have hs1 : sm.natAbs < 2 ^ 61 := by
    have h1 := Int.emod_nonneg c (show (2305843009213693951 : Int) ≠ 0 by decide)
    have h2 := Int.emod_lt_of_pos c (show (0 : Int) < 2305843009213693951 by decide)
    omega
  have m2 : CMulW sm 92209 := wide_mul hs1 (b := 20) (by decide) (by decide) (by decide) (by decide)
  have hk2 : k.natAbs < 2 ^ 6 := by omega
  have m3 : CMulW 13395 k := wide_mul (a := 20) (by decide) hk2 (by decide) (by decide) (by decide)
  have b3 : (13395 * k).natAbs < 2 ^ 26 := mul_bits (a := 20) (b := 6) (by decide) hk2
  have m4 : CMulW (13395 * k) k := wide_mul b3 hk2 (by decide) (by decide) (by decide)
  refine ⟨[.int (ab % (10 ^ 60) ^ 5 * (if decide ((10 : Int) ^ 18 ≤ ab) = true then 1 else 0)), .int ((sm * 92209 + 13395 * k * k + 2793) % 2305843009213693921), .int 0], ⟨_, _, _, rfl, by decide, by decide, Int.emod_nonneg _ (by decide), by have := Int.emod_lt_of_pos (sm * 92209 + 13395 * k * k + 2793) (show (0 : Int) < 2305843009213693921 by decide); omega⟩, ?_⟩
  have m1' := m1 (decide ((10 : Int) ^ 18 ≤ ab))
  simp only [decide_eq_true_eq] at m1'
  unfold F__law_pot fnSemO g__law_pot t__law_pot_1 t__law_pot_2 t__law_pot_3 t__law_pot_4
  simp [-r_eIf, -Int.reducePow, hc, ha, hs, p1, p2, p3, p4, m1', m2, m3, m4]
theorem rgL (k : Nat) (hk : k ≤ 100000) : rangeD 0 (k : Int) = some (((List.range k).map fun (i : Nat) => (i : Int)).map D.int) := by
  unfold rangeD
  rw [if_pos (by omega)]
  simp
theorem it_go {f : ES} {ρ ρ1 : List B} {k : Nat} (hk : k ≤ 100000) (h : f ρ = .ok (.int (k : Int), ρ1)) : iRange1 f ρ = .ok (((List.range k).map fun (i : Nat) => (i : Int)).map D.int, ρ1) := by
  have e := rgL k hk
  unfold iRange1
  rw [h, Rs.ok_bind]
  simp only [e, ofO_some, Rs.ok_bind]
end My
namespace My
open PySem PySem.Spec PyProof.Rows L2 RT
theorem szn {n : Nat} (h : n ≤ 100000) : n ≤ sizeLine := by rw [sizeLine_eq]; omega
theorem rt_seq {F G : List B → Fl} {ρ ρ1 : List B} {d : D} (h : F ρ = .rt d ρ1) : sSeq F G ρ = .rt d ρ1 := by unfold sSeq; rw [h]
theorem eCallB_eq {Fn : FS} {a : AS} {ρ : List B} {j : Nat} {k : Bool} {ds es : List D} {args : List D} {d : D} {r : List B} (h0 : ρ[j]? = some (.ow k ds)) (ha : a ρ = .ok (args, ρ)) (hf : Fn (.ow true ds :: args.map .va) = .ok (d, .ow true es :: r)) : eCallB j Fn a ρ = .ok (d, ρ.set j (.ow k es)) := by
  simp only [r_eCallB, r_atOw, h0, ha, hf, Rs.ok_bind, noX_ok]
theorem eCallK_eq {Fn : FS} {idx : List Nat} {a : AS} {ρ ρ1 : List B} {ds es : List D} {d : D} {r : List B} (ha : a ρ = .ok (ds, ρ1)) (hpe : permL idx ds = es) (hf : Fn (es.map .va) = .ok (d, r)) : eCallK Fn idx a ρ = .ok (d, ρ1) := by
  unfold eCallK
  simp only [ha, Rs.ok_bind, hpe, hf, noX_ok]
def isI : D → Bool
  | .int _ => true
  | _ => false
def btw (lo hi : Int) : D → Bool
  | .int i => decide (lo ≤ i) && decide (i ≤ hi)
  | _ => false
theorem e_is_integer (d : D) : F_is_integer [.va d] = .ok (.bl (isI d), [.va d]) := by
  cases d <;> simp [F_is_integer, fnSem, g_is_integer, mergeB, isI]
theorem e_is_between (d : D) (lo hi : Int) : F_is_between [.va d, .va (.int lo), .va (.int hi)] = .ok (.bl (btw lo hi d), [.va d, .va (.int lo), .va (.int hi)]) := by
  cases d with
  | int i =>
    by_cases h : lo ≤ i <;> simp [F_is_between, fnSem, g_is_between, mergeB, e_is_integer, isI, btw, h]
  | _ => simp [F_is_between, fnSem, g_is_between, mergeB, e_is_integer, isI, btw]
theorem e_are_between (ds : List D) (hz : ds.length ≤ sizeLine) (lo hi : Int) : F_are_between [.va (.tup ds), .va (.int lo), .va (.int hi)] = .ok (.bl (ds.all (btw lo hi)), [.va (.tup ds), .va (.int lo), .va (.int hi)]) := by
  have h1 := oLc_map (vs := [3]) (it := (iSeq (eSlot 0))) (tg := (gN 3)) (te := (eCall F_is_between (aCons (eSlot 3) (aCons (eSlot 1) (aCons (eSlot 2) aNil)))))
    (ρ := [.va (.tup ds), .va (.int lo), .va (.int hi), .un]) (ρ1 := [.va (.tup ds), .va (.int lo), .va (.int hi), .un]) ds id (fun d => .bl (btw lo hi d))
    (by simp) (by rfl) (fun d _ => ⟨[(3, d)], rfl, by simp, by simp [e_is_between]⟩) hz
  have a1 := r_allA ds (btw lo hi)
  simp [F_are_between, fnSem, g_are_between, c_are_between_1, mergeB, h1, a1]
theorem e_are_between_no {d : D} (h : dIsi "tuple" d = some (.bl false)) (lo hi : Int) : F_are_between [.va d, .va (.int lo), .va (.int hi)] = .ok (.bl false, [.va d, .va (.int lo), .va (.int hi)]) := by
  simp [F_are_between, fnSem, g_are_between, mergeB, h]
theorem btw_ints (lo hi : Int) : ∀ ds : List D, ds.all (btw lo hi) = true → ∃ is : List Int, ds = is.map D.int ∧ ∀ i ∈ is, lo ≤ i ∧ i ≤ hi
  | [], _ => ⟨[], rfl, fun m h => nomatch h⟩
  | d :: ds, h => by
    rw [List.all_cons, Bool.and_eq_true] at h
    obtain ⟨is, e, h2⟩ := btw_ints lo hi ds h.2
    cases d with
    | int i =>
      have hb : (decide (lo ≤ i) && decide (i ≤ hi)) = true := h.1
      rw [Bool.and_eq_true, decide_eq_true_eq, decide_eq_true_eq] at hb
      refine ⟨i :: is, by rw [e, List.map_cons], fun m hm => ?_⟩
      rcases List.mem_cons.mp hm with q | q
      · rw [q]; exact hb
      · exact h2 m q
    | _ => exact absurd h.1 Bool.false_ne_true
theorem ints_btw {lo hi : Int} {is : List Int} (h : ∀ i ∈ is, lo ≤ i ∧ i ≤ hi) : (is.map D.int).all (btw lo hi) = true := by
  rw [List.all_eq_true]
  intro d hd
  obtain ⟨e, he, rfl⟩ := List.mem_map.mp hd
  have := h e he
  simp [btw]
  omega
theorem map_int_inj : ∀ (a b : List Int), a.map D.int = b.map D.int → a = b
  | [], [], _ => rfl
  | [], _ :: _, h => by simp at h
  | _ :: _, [], h => by simp at h
  | x :: a, y :: b, h => by
    simp only [List.map_cons, List.cons.injEq, D.int.injEq] at h
    rw [h.1, map_int_inj a b h.2]
abbrev Ln := Int × Int × Int
def film (n : Int) (cs : List Int) : D := .tup [.int n, .tup (cs.map D.int)]
def dLn (l : Ln) : D := .tup [.int l.1, .int l.2.1, .int l.2.2]
def dL (L : List Ln) : D := .tup (L.map dLn)
structure Ru where
  a : Int
  b : Int
  c : Int
  g : Int
def dRu (r : Ru) : D := .tup [.int r.a, .int r.b, .int r.c, .int r.g]
def Asc : List Int → Prop
  | [] => True
  | [_] => True
  | a :: b :: r => a < b ∧ Asc (b :: r)
def AscL : List Ln → Prop
  | [] => True
  | [_] => True
  | a :: b :: r => a.1 ≤ b.1 ∧ AscL (b :: r)
structure OkF (n : Int) (cs : List Int) : Prop where
  n1 : 1 ≤ n
  n2 : n ≤ 400
  cut : ∀ c ∈ cs, 1 ≤ c ∧ c ≤ n - 1
  asc : Asc cs
  len : cs.length ≤ 1000
structure OkL (n : Int) (L : List Ln) : Prop where
  len : L.length ≤ 30
  each : ∀ l ∈ L, 0 ≤ l.1 ∧ l.1 < l.2.1 ∧ l.2.1 ≤ n ∧ 1 ≤ l.2.2 ∧ l.2.2 ≤ 400
  asc : AscL L
structure OkR (r : Ru) : Prop where
  a : 0 ≤ r.a ∧ r.a ≤ 100
  b : 0 ≤ r.b ∧ r.b ≤ 100
  c : 0 ≤ r.c ∧ r.c ≤ 100
  g : 0 ≤ r.g ∧ r.g ≤ 100
theorem asc_zip : ∀ (l : List Int), Asc l → (l.zip (l.drop 1)).all (fun p => decide (p.1 < p.2)) = true
  | [], _ => rfl
  | [_], _ => rfl
  | a :: b :: r, h => by
    have ih := asc_zip (b :: r) h.2
    simp only [List.drop_succ_cons, List.drop_zero] at ih ⊢
    rw [List.zip_cons_cons, List.all_cons, ih, decide_eq_true h.1]
    rfl
theorem ascL_zip : ∀ (l : List Ln), AscL l → (l.zip (l.drop 1)).all (fun p => decide (p.1.1 ≤ p.2.1)) = true
  | [], _ => rfl
  | [_], _ => rfl
  | a :: b :: r, h => by
    have ih := ascL_zip (b :: r) h.2
    simp only [List.drop_succ_cons, List.drop_zero] at ih ⊢
    rw [List.zip_cons_cons, List.all_cons, ih, decide_eq_true h.1]
    rfl
theorem e_is_ascending (cs : List Int) (hz : cs.length ≤ 1000) : F_is_ascending [.va (.tup (cs.map D.int))] = .ok (.bl ((cs.zip (cs.drop 1)).all fun p => decide (p.1 < p.2)), [.va (.tup (cs.map D.int))]) := by
  have h := oLc_map (vs := [1, 2]) (it := (iZip' (eSlot 0) (eSl (eSlot 0) (oAt (eC (.int 1))) oNo))) (tg := (gT (gsCons (gN 1) (gsCons (gN 2) gsNil)))) (te := (eOp dLt (eSlot 1) (eSlot 2)))
    (ρ := [.va (.tup (cs.map D.int)), .un, .un]) (ρ1 := [.va (.tup (cs.map D.int)), .un, .un]) (cs.zip (cs.drop 1)) (fun p => .tup [.int p.1, .int p.2]) (fun p => .bl (decide (p.1 < p.2)))
    (by
      have e : zipD (cs.map D.int) ((cs.map D.int).drop 1) = (cs.zip (cs.drop 1)).map fun p => .tup [.int p.1, .int p.2] := by rw [← List.map_drop, zipD_map]
      simp only [r_iZip, r_eSlot, r_eSl, r_oAt, r_oNo, r_eC, List.getElem?_cons_zero, Rs.ok_bind, r_slT, cut_d1, ofO_some, r_seqT, e]) (by rfl) (fun p _ => ⟨[(1, .int p.1), (2, .int p.2)], rfl, by simp, by simp⟩) (by refine szn ?_; rw [List.length_zip, List.length_drop]; omega)
  have a1 := r_allA (cs.zip (cs.drop 1)) fun p => decide (p.1 < p.2)
  suffices h : g_is_ascending ([.va (.tup (cs.map D.int))] ++ List.replicate 2 .un) = .rt (.bl ((cs.zip (cs.drop 1)).all fun p => decide (p.1 < p.2))) [.va (.tup (cs.map D.int)), .un, .un] from call_of rfl h rfl
  show g_is_ascending [.va (.tup (cs.map D.int)), .un, .un] = _
  simp only [g_is_ascending, c_is_ascending_1, r_sRet, r_eBlt, r_aCons, r_aNil, r_eO, h, Rs.ok_bind, a1, ofO_some, r_sRs_ok]
theorem e_is_film {n : Int} {cs : List Int} (h : OkF n cs) : F_is_film [.va (film n cs)] = .ok (.bl true, [.va (film n cs)]) := by
  have hl := h.len
  have h1 : t_is_film_1 [.va (film n cs)] = .nx [.va (film n cs)] := by
    have hb : btw 1 400 (.int n) = true := by simp [btw, h.n1, h.n2]
    simp [t_is_film_1, film, L2.ixN, e_is_between, hb]
  have h2 : t_is_film_2 [.va (film n cs)] = .rt (.bl true) [.va (film n cs)] := by
    have a1 := e_are_between (cs.map D.int) (szn (by rw [List.length_map]; omega)) 1 (n - 1)
    rw [ints_btw h.cut] at a1
    have a2 := e_is_ascending cs hl
    rw [asc_zip cs h.asc] at a2
    unfold film
    generalize cs.map D.int = z at a1 a2 ⊢
    simp [t_is_film_2, L2.ixN, a1, a2]
  have h3 : g_is_film ([.va (film n cs)] ++ List.replicate 0 .un) = _ := (seq_nx h1).trans h2
  exact call_of rfl h3 rfl
theorem e_check_film {n : Int} {cs : List Int} (h : OkF n cs) : F_check_film [.va (film n cs)] = .ok (.non, [.va (film n cs)]) := by
  have c := eCall_eq (Fn := F_is_film) (a := (aCons (eSlot 0) aNil)) (ρ := [.va (film n cs)]) (ρ1 := [.va (film n cs)]) (ds := [film n cs]) rfl (e_is_film h)
  have h3 : g_check_film ([.va (film n cs)] ++ List.replicate 0 .un) = .nx [.va (film n cs)] := by
    show g_check_film [.va (film n cs)] = _
    generalize film n cs = z at c ⊢
    simp [g_check_film, -r_eCall, c]
  exact call_nx rfl h3 rfl
theorem e_is_line {n : Int} {l : Ln} (hn : n ≤ 400) (h : 0 ≤ l.1 ∧ l.1 < l.2.1 ∧ l.2.1 ≤ n ∧ 1 ≤ l.2.2 ∧ l.2.2 ≤ 400) : F_is_line [.va (.int n), .va (dLn l)] = .ok (.bl true, [.va (.int n), .va (dLn l)]) := by
  obtain ⟨x1, x2, x3, x4, x5⟩ := h
  have a1 := e_are_between [.int l.1, .int l.2.1, .int l.2.2] sz3 0 400
  have b1 : ([.int l.1, .int l.2.1, .int l.2.2] : List D).all (btw 0 400) = true := by simp [btw]; omega
  rw [b1] at a1
  have c1 : 0 < l.2.2 := by omega
  have h1 : t_is_line_1 [.va (.int n), .va (dLn l)] = .nx [.va (.int n), .va (dLn l)] := by
    unfold dLn
    simp [t_is_line_1, a1]
  have h2 : t_is_line_2 [.va (.int n), .va (dLn l)] = .rt (.bl true) [.va (.int n), .va (dLn l)] := by
    unfold dLn
    simp [t_is_line_2, L2.ixN, x2, x3, c1]
  have h3 : g_is_line ([.va (.int n), .va (dLn l)] ++ List.replicate 0 .un) = _ := (seq_nx h1).trans h2
  exact call_of rfl h3 rfl
theorem e_are_lines_of {n : Int} {L : List Ln} (hn : n ≤ 400) (h : OkL n L) : F_are_lines_of [.va (.int n), .va (dL L)] = .ok (.bl true, [.va (.int n), .va (dL L)]) := by
  have hl := h.len
  have c1 : c_are_lines_of_1 [.va (.int n), .va (dL L), .un, .un, .un] = .ok (L.map (fun _ => D.bl true), [.va (.int n), .va (dL L), .un, .un, .un]) := by
    unfold c_are_lines_of_1
    refine oLc_map L dLn _ rfl rfl ?_ (szn (by omega))
    intro l hm
    exact ⟨[(2, dLn l)], rfl, by simp, eCall_eq (Fn := F_is_line) rfl (e_is_line hn (h.each l hm))⟩
  have a1 := r_allA L (fun _ => true)
  have b1 : (L.all fun _ => true) = true := by simp
  rw [b1] at a1
  have g1 : t_are_lines_of_1 [.va (.int n), .va (dL L), .un, .un, .un] = .nx [.va (.int n), .va (dL L), .un, .un, .un] := by
    have e1 : dLen [dL L] = some (.int L.length) := by unfold dL; rw [r_lenT, List.length_map]
    have e2 : dIsi "tuple" (dL L) = some (.bl true) := by unfold dL; simp
    have e3 : ¬ (30 : Int) < L.length := by omega
    generalize L.map (fun _ => D.bl true) = y at c1 a1
    generalize dL L = z at c1 e1 e2 ⊢
    simp [t_are_lines_of_1, c1, a1, e1, e2, e3]
  have c2 : c_are_lines_of_2 [.va (.int n), .va (dL L), .un, .un, .un] = .ok ((L.zip (L.drop 1)).map (fun p => D.bl (decide (p.1.1 ≤ p.2.1))), [.va (.int n), .va (dL L), .un, .un, .un]) := by
    unfold c_are_lines_of_2
    refine oLc_map (L.zip (L.drop 1)) (fun p => .tup [dLn p.1, dLn p.2]) _ ?_ rfl ?_ (by refine szn ?_; rw [List.length_zip, List.length_drop]; omega)
    · have e : zipD (L.map dLn) ((L.map dLn).drop 1) = (L.zip (L.drop 1)).map fun p => .tup [dLn p.1, dLn p.2] := by rw [← List.map_drop, zipD_map]
      simp only [r_iZip, r_eSlot, r_eSl, r_oAt, r_oNo, r_eC, List.getElem?_cons_zero, List.getElem?_cons_succ, Rs.ok_bind, dL, r_slT, cut_d1, ofO_some, r_seqT, e]
    · rintro ⟨p, q⟩ _
      exact ⟨[(3, dLn p), (4, dLn q)], rfl, by simp, by simp [dLn, L2.ixN]⟩
  have a2 := r_allA (L.zip (L.drop 1)) (fun p => decide (p.1.1 ≤ p.2.1))
  rw [ascL_zip L h.asc] at a2
  have g2 : t_are_lines_of_2 [.va (.int n), .va (dL L), .un, .un, .un] = .rt (.bl true) [.va (.int n), .va (dL L), .un, .un, .un] := by
    simp only [t_are_lines_of_2, r_sRet, r_eBlt, r_aCons, r_aNil, r_eO, c2, Rs.ok_bind, a2, ofO_some, r_sRs_ok]
  have h3 : g_are_lines_of ([.va (.int n), .va (dL L)] ++ List.replicate 3 .un) = _ := (seq_nx g1).trans g2
  exact call_of rfl h3 rfl
theorem film0 {n : Int} {cs : List Int} : dIx (film n cs) (.int 0) = some (.int n) := rfl
theorem film1 {n : Int} {cs : List Int} : dIx (film n cs) (.int 1) = some (.tup (cs.map D.int)) := rfl
theorem e_check_lines {n : Int} {cs : List Int} {L : List Ln} (h : OkF n cs) (h2 : OkL n L) : F_check_lines [.va (film n cs), .va (dL L)] = .ok (.non, [.va (film n cs), .va (dL L)]) := by
  have c1 := eCall_eq (Fn := F_check_film) (a := (aCons (eSlot 0) aNil)) (ρ := [.va (film n cs), .va (dL L)]) (ρ1 := [.va (film n cs), .va (dL L)]) (ds := [film n cs]) rfl (e_check_film h)
  have c2 := eCall_eq (Fn := F_are_lines_of) (a := (aCons (eOp dIx (eSlot 0) (eC (.int 0))) (aCons (eSlot 1) aNil))) (ρ := [.va (film n cs), .va (dL L)]) (ρ1 := [.va (film n cs), .va (dL L)]) (ds := [.int n, dL L]) rfl (e_are_lines_of h.n2 h2)
  have g1 : t_check_lines_1 [.va (film n cs), .va (dL L)] = .nx [.va (film n cs), .va (dL L)] := by
    generalize film n cs = z at c1 ⊢
    simp [t_check_lines_1, -r_eCall, c1]
  have g2 : t_check_lines_2 [.va (film n cs), .va (dL L)] = .nx [.va (film n cs), .va (dL L)] := by
    generalize film n cs = z at c2 ⊢
    generalize dL L = y at c2 ⊢
    simp [t_check_lines_2, -r_eCall, c2]
  have h3 : g_check_lines ([.va (film n cs), .va (dL L)] ++ List.replicate 0 .un) = .nx [.va (film n cs), .va (dL L)] := (seq_nx g1).trans g2
  exact call_nx rfl h3 rfl
theorem e_check_rules {n : Int} {cs : List Int} {L : List Ln} {r : Ru} (h : OkF n cs) (h2 : OkL n L) (h3 : OkR r) : F_check_rules [.va (film n cs), .va (dL L), .va (dRu r)] = .ok (.non, [.va (film n cs), .va (dL L), .va (dRu r)]) := by
  have c1 := eCall_eq (Fn := F_check_lines) (a := (aCons (eSlot 0) (aCons (eSlot 1) aNil))) (ρ := [.va (film n cs), .va (dL L), .va (dRu r)]) (ρ1 := [.va (film n cs), .va (dL L), .va (dRu r)]) (ds := [film n cs, dL L]) rfl (e_check_lines h h2)
  have g1 : t_check_rules_1 [.va (film n cs), .va (dL L), .va (dRu r)] = .nx [.va (film n cs), .va (dL L), .va (dRu r)] := by
    generalize film n cs = z at c1 ⊢
    simp [t_check_rules_1, -r_eCall, c1]
  have a1 := e_are_between [.int r.a, .int r.b, .int r.c, .int r.g] sz4 0 100
  have b1 : ([.int r.a, .int r.b, .int r.c, .int r.g] : List D).all (btw 0 100) = true := by simp [btw, h3.a.1, h3.a.2, h3.b.1, h3.b.2, h3.c.1, h3.c.2, h3.g.1, h3.g.2]
  rw [b1] at a1
  have g2 : t_check_rules_2 [.va (film n cs), .va (dL L), .va (dRu r)] = .nx [.va (film n cs), .va (dL L), .va (dRu r)] := by
    unfold dRu
    generalize film n cs = z
    generalize dL L = y
    simp [t_check_rules_2, a1]
  have h4 : g_check_rules ([.va (film n cs), .va (dL L), .va (dRu r)] ++ List.replicate 0 .un) = .nx [.va (film n cs), .va (dL L), .va (dRu r)] := (seq_nx g1).trans g2
  exact call_nx rfl h4 rfl
end My
namespace My
open PySem PySem.Spec PyProof.Rows L2 RT
def noCut (cs : List Int) (on off : Int) : Bool := !(cs.any fun c => decide (on < c) && decide (c < off))
def fitB (n : Int) (cs : List Int) (l : Ln) (r : Ru) (on off : Int) : Bool :=
  !(decide (on < l.1 - r.a) || decide (on > l.1 + r.b) || decide (off > l.2.1 + r.c) || decide (off > n) || decide (off - on < l.2.2)) && noCut cs on off
def showsL (n : Int) (cs : List Int) (l : Ln) (r : Ru) : List (Int × Int) :=
  ((((List.range n.toNat).map fun (i : Nat) => ((i : Int), (i : Int) + l.2.2)).filter fun p => decide (p.2 ≤ n))).filter fun p => fitB n cs l r p.1 p.2
def showsF (n : Int) (cs : List Int) (l : Ln) (r : Ru) (t : Int) : List (Int × Int) := (showsL n cs l r).filter fun p => decide (t ≤ p.1)
def dSh (p : Int × Int) : D := .tup [.int p.1, .int p.2]
theorem range_filter {n lo N : Nat} (h : lo + N ≤ n) : (List.range n).filter (fun i => decide (lo ≤ i) && decide (i < lo + N)) = (List.range N).map (lo + ·) := by
  obtain ⟨m, rfl⟩ : ∃ m, n = lo + (N + m) := ⟨n - lo - N, by omega⟩
  rw [List.range_add, List.filter_append, List.range_add, List.map_append, List.filter_append]
  have e1 : (List.range lo).filter (fun i => decide (lo ≤ i) && decide (i < lo + N)) = [] := by
    rw [List.filter_eq_nil_iff]
    intro i hi
    have := List.mem_range.mp hi
    simp
    omega
  have e2 : ((List.range N).map (lo + ·)).filter (fun i => decide (lo ≤ i) && decide (i < lo + N)) = (List.range N).map (lo + ·) := by
    rw [List.filter_eq_self]
    intro i hi
    obtain ⟨j, hj, rfl⟩ := List.mem_map.mp hi
    have := List.mem_range.mp hj
    simp
    omega
  have e3 : (((List.range m).map (N + ·)).map (lo + ·)).filter (fun i => decide (lo ≤ i) && decide (i < lo + N)) = [] := by
    rw [List.filter_eq_nil_iff]
    intro i hi
    obtain ⟨j, hj, rfl⟩ := List.mem_map.mp hi
    obtain ⟨k, hk, rfl⟩ := List.mem_map.mp hj
    simp
  rw [e1, e2, e3]
  simp
def loT (l : Ln) (r : Ru) (t : Int) : Int := if t > (if l.1 - r.a > 0 then l.1 - r.a else 0) then t else (if l.1 - r.a > 0 then l.1 - r.a else 0)
def lastO (n : Int) (l : Ln) (r : Ru) : Int := if l.2.1 + r.c < n then l.2.1 + r.c else n
def hiT (n : Int) (l : Ln) (r : Ru) : Int := (if lastO n l r - l.2.2 < l.1 + r.b then lastO n l r - l.2.2 else l.1 + r.b) + 1
theorem loT_nn (l : Ln) (r : Ru) (t : Int) : 0 ≤ loT l r t := by unfold loT; split <;> split <;> (try split) <;> omega
theorem showsF_eq {n : Int} {cs : List Int} {l : Ln} {r : Ru} {t : Int} (hn : 0 ≤ n) (hk : 1 ≤ l.2.2) : showsF n cs l r t = (((List.range (hiT n l r - loT l r t).toNat).map fun (i : Nat) => ((loT l r t + i : Int), (loT l r t + i : Int) + l.2.2)).filter fun p => noCut cs p.1 p.2) := by
  obtain ⟨lo, hlo⟩ : ∃ lo : Nat, loT l r t = lo := ⟨(loT l r t).toNat, by have := loT_nn l r t; omega⟩
  obtain ⟨N, hN⟩ : ∃ N : Nat, (hiT n l r - loT l r t).toNat = N := ⟨_, rfl⟩
  have hbig : 0 < N → lo + N ≤ n.toNat := fun h => by
    have : hiT n l r ≤ n := by unfold hiT lastO; split <;> split <;> omega
    omega
  have e0 : (List.range n.toNat).filter (fun i => decide (lo ≤ i) && decide (i < lo + N)) = (List.range N).map (lo + ·) := by
    by_cases h : 0 < N
    · exact range_filter (hbig h)
    · have : N = 0 := by omega
      subst this
      rw [List.range_zero, List.map_nil, List.filter_eq_nil_iff]
      intro i _
      simp
  rw [hN]
  have e1 : ((List.range N).map fun (i : Nat) => ((loT l r t + i : Int), (loT l r t + i : Int) + l.2.2)) = ((List.range N).map (lo + ·)).map fun (i : Nat) => ((i : Int), (i : Int) + l.2.2) := by
    rw [List.map_map]
    refine List.map_congr_left fun i _ => ?_
    simp [hlo]
  rw [e1, ← e0]
  unfold showsF showsL
  simp only [List.filter_map, List.filter_filter]
  congr 1
  refine List.filter_congr fun i hi => ?_
  have hin := List.mem_range.mp hi
  simp only [Function.comp, fitB]
  cases noCut cs (i : Int) ((i : Int) + l.2.2) with
  | false => simp
  | true =>
    simp only [Bool.and_true, Bool.true_and]
    rw [Bool.eq_iff_iff]
    simp only [Bool.and_eq_true, Bool.not_eq_true', Bool.or_eq_false_iff, decide_eq_true_eq, decide_eq_false_iff_not]
    have hh : hiT n l r = (if lastO n l r - l.2.2 < l.1 + r.b then lastO n l r - l.2.2 else l.1 + r.b) + 1 := rfl
    have hl : lastO n l r = if l.2.1 + r.c < n then l.2.1 + r.c else n := rfl
    have hl2 : loT l r t = if t > (if l.1 - r.a > 0 then l.1 - r.a else 0) then t else (if l.1 - r.a > 0 then l.1 - r.a else 0) := rfl
    rw [hlo] at hl2 hN
    constructor
    · rintro ⟨h1, ⟨⟨⟨⟨h3, h4⟩, h5⟩, h6⟩, h7⟩, h2⟩
      refine ⟨?_, ?_⟩
      · split at hl2 <;> split at hl2 <;> omega
      · split at hh <;> split at hl <;> omega
    · rintro ⟨h1, h2⟩
      refine ⟨?_, ⟨⟨⟨⟨?_, ?_⟩, ?_⟩, ?_⟩, ?_⟩, ?_⟩
      all_goals first
        | omega
        | (split at hl2 <;> (try split at hl2) <;> (split at hh <;> split at hl <;> omega))
def cntLe (cs : List Int) (on : Int) : Nat := (cs.takeWhile fun c => decide (c ≤ on)).length
theorem cntLe_le (cs : List Int) (on : Int) : cntLe cs on ≤ cs.length := (List.takeWhile_sublist _).length_le
theorem cntLe_lt : ∀ (cs : List Int) (on : Int) (i : Nat), i < cntLe cs on → ∃ c, cs[i]? = some c ∧ c ≤ on
  | [], _, i, h => by simp [cntLe] at h
  | c :: cs, on, i, h => by
    unfold cntLe at h
    rw [List.takeWhile_cons] at h
    split at h
    · rename_i hc
      cases i with
      | zero => exact ⟨c, rfl, of_decide_eq_true hc⟩
      | succ i =>
        rw [List.length_cons] at h
        obtain ⟨x, h1, h2⟩ := cntLe_lt cs on i (by unfold cntLe; omega)
        exact ⟨x, by simpa using h1, h2⟩
    · simp at h
theorem cntLe_at : ∀ (cs : List Int) (on : Int), (cntLe cs on = cs.length) ∨ ∃ c, cs[cntLe cs on]? = some c ∧ on < c
  | [], _ => .inl rfl
  | c :: cs, on => by
    unfold cntLe
    rw [List.takeWhile_cons]
    split
    · rcases cntLe_at cs on with h | ⟨x, h1, h2⟩
      · left; rw [List.length_cons, List.length_cons]; unfold cntLe at h; omega
      · right; exact ⟨x, by rw [List.length_cons, List.getElem?_cons_succ]; exact h1, h2⟩
    · rename_i hc
      right
      refine ⟨c, rfl, ?_⟩
      have : ¬ c ≤ on := fun h => hc (decide_eq_true h)
      omega
theorem cntLe_mono : ∀ (cs : List Int) (x y : Int), x ≤ y → cntLe cs x ≤ cntLe cs y
  | [], _, _, _ => Nat.le_refl _
  | c :: cs, x, y, h => by
    have ih := cntLe_mono cs x y h
    unfold cntLe at ih ⊢
    rw [List.takeWhile_cons, List.takeWhile_cons]
    by_cases h1 : c ≤ x
    · have h2 : c ≤ y := by omega
      simp only [decide_eq_true h1, decide_eq_true h2, if_true, List.length_cons]
      omega
    · simp [h1]
theorem asc_ge : ∀ (c : Int) (cs : List Int), Asc (c :: cs) → ∀ x ∈ cs, c < x
  | c, [], _, x, h => nomatch h
  | c, d :: cs, h, x, hx => by
    rcases List.mem_cons.mp hx with e | e
    · rw [e]; exact h.1
    · have := asc_ge d cs h.2 x e
      have := h.1
      omega
theorem asc_tail {c : Int} {cs : List Int} (h : Asc (c :: cs)) : Asc cs := by
  cases cs with
  | nil => trivial
  | cons d r => exact h.2
theorem noCut_at : ∀ (cs : List Int), Asc cs → ∀ (on off : Int), noCut cs on off = match cs[cntLe cs on]? with | none => true | some c => decide (off ≤ c)
  | [], _, _, _ => by simp [noCut]
  | c :: cs, ha, on, off => by
    have ih := noCut_at cs (asc_tail ha) on off
    unfold noCut at ih ⊢
    unfold cntLe at ih ⊢
    rw [List.takeWhile_cons, List.any_cons]
    by_cases hc : c ≤ on
    · simp only [decide_eq_true hc, if_true, List.length_cons, List.getElem?_cons_succ]
      rw [← ih]
      have : decide (on < c) = false := decide_eq_false (by omega)
      rw [this, Bool.false_and, Bool.false_or]
    · simp only [decide_eq_false hc]
      have h1 : decide (on < c) = true := decide_eq_true (by omega)
      rw [h1, Bool.true_and]
      show (!(decide (c < off) || cs.any fun c => decide (on < c) && decide (c < off))) = decide (off ≤ c)
      by_cases h2 : c < off
      · rw [decide_eq_true h2, Bool.true_or, decide_eq_false (by omega)]; rfl
      · rw [decide_eq_false h2, Bool.false_or, decide_eq_true (by omega)]
        have : (cs.any fun c => decide (on < c) && decide (c < off)) = false := by
          rw [List.any_eq_false]
          intro x hx
          have := asc_ge c cs ha x hx
          simp
          omega
        rw [this]
        rfl
end My
namespace My
open PySem PySem.Spec PyProof.Rows L2 RT
variable {n : Int} {cs : List Int} {l : Ln} {r : Ru} {t : Int}
theorem lay_sh : ∀ (L : List (Int × Int)), PyData.canLayAll0 (dPs (L.map dSh)) = true ∧ PyData.depthAll (dPs (L.map dSh)) ≤ 1
  | [] => ⟨rfl, by simp [dPs, PyData.depthAll]⟩
  | p :: L => by
    obtain ⟨h1, h2⟩ := lay_sh L
    rw [List.map_cons]
    refine ⟨?_, ?_⟩
    · simp [dPs, dP, dSh, PyData.canLayAll0, PyData.canLay0, h1]
    · simp [dPs, dP, dSh, PyData.depthAll, PyData.depth]; omega
theorem ne_sh (L : List (Int × Int)) : dNe (.lst (L.map dSh)) (.lst []) = some (.bl (!L.isEmpty)) := by
  have sh : SeqAt.shaped (dP (.lst (L.map dSh))) = true := by
    obtain ⟨h1, h2⟩ := lay_sh L
    simp only [SeqAt.shaped, dP, PyData.canLay0, PyData.depth, h1, Bool.true_and, decide_eq_true_eq]
    omega
  show (eqD _ _).map _ = _
  unfold eqD
  rw [if_pos ⟨sh, by decide⟩]
  cases L with
  | nil => rfl
  | cons n ns => rfl
theorem it_goF {f : ES} {ρ ρ1 : List B} {k : Nat} (hk : k ≤ 100000) (h : f ρ = .ok (.int (k : Int), ρ1)) : iRange1 f ρ = .ok ((List.range k).map (fun (i : Nat) => D.int (i : Int)), ρ1) := by
  rw [it_go hk h, List.map_map]
  rfl
theorem e_ons_of : F_ons_of [.va (dLn l), .va (dRu r)] = .ok (.tup [.int (if l.1 - r.a > 0 then l.1 - r.a else 0), .int (l.1 + r.b)], [.va (dLn l), .va (dRu r)]) := by
  refine call_of (ρ' := [.va (dLn l), .va (dRu r)]) rfl ?_ rfl
  show g_ons_of [.va (dLn l), .va (dRu r)] = _
  simp [g_ons_of, dLn, dRu, L2.ixN]
theorem e_last_off : F_last_off [.va (film n cs), .va (dLn l), .va (dRu r)] = .ok (.int (lastO n l r), [.va (film n cs), .va (dLn l), .va (dRu r)]) := by
  refine call_of (ρ' := [.va (film n cs), .va (dLn l), .va (dRu r)]) rfl ?_ rfl
  show g_last_off [.va (film n cs), .va (dLn l), .va (dRu r)] = _
  simp [g_last_off, film, dLn, dRu, L2.ixN, lastO]
def tW : BS := (bAnd (bV (eOp dLt (eSlot 8) (eBlt dLen (aCons (eSlot 7) aNil)))) (bV (eOp dLe (eOp dIx (eSlot 7) (eSlot 8)) (eSlot 9))))
theorem ix_cs {k : Nat} {c : Int} (h : cs[k]? = some c) : dIx (.tup (cs.map D.int)) (.int (k : Int)) = some (.int c) := by
  have hk := (List.getElem?_eq_some_iff.mp h).1
  rw [r_ixT]
  have : ixN (cs.map D.int).length (k : Int) = some k := by
    rw [List.length_map]
    unfold ixN
    rw [if_pos (by omega), if_pos (by omega)]
    simp
  rw [this]
  simp [h]
theorem while_cut {a0 a1 a2 a3 a4 a5 a6 : B} (on : Int) : ∀ (d k at' : Nat), at' + d = cntLe cs on → d < k →
    whileGo tW b_shows_from_1 k [a0, a1, a2, a3, a4, a5, a6, .va (.tup (cs.map D.int)), .va (.int at'), .va (.int on)] = .nx [a0, a1, a2, a3, a4, a5, a6, .va (.tup (cs.map D.int)), .va (.int (cntLe cs on)), .va (.int on)]
  | _, 0, _, _, h => by omega
  | 0, k + 1, at', h, _ => by
    have h : at' = cntLe cs on := by omega
    subst h
    have ht : tW [a0, a1, a2, a3, a4, a5, a6, .va (.tup (cs.map D.int)), .va (.int (cntLe cs on)), .va (.int on)] = .ok (false, [a0, a1, a2, a3, a4, a5, a6, .va (.tup (cs.map D.int)), .va (.int (cntLe cs on)), .va (.int on)]) := by
      rcases cntLe_at cs on with h | ⟨c, h1, h2⟩
      · rw [h]
        simp [tW]
      · have hx := ix_cs h1
        have hlt := (List.getElem?_eq_some_iff.mp h1).1
        have hlt2 : ((cntLe cs on : Nat) : Int) < (cs.length : Int) := by omega
        have hc : ¬ c ≤ on := by omega
        have hlen : dLen [.tup (cs.map D.int)] = some (.int cs.length) := by rw [r_lenT, List.length_map]
        generalize D.tup (cs.map D.int) = z at hx hlen ⊢
        simp [tW, hlen, hlt2, hx, hc]
    unfold whileGo
    rw [ht]
    rfl
  | d + 1, k + 1, at', h, hk => by
    have ih := while_cut (a0 := a0) (a1 := a1) (a2 := a2) (a3 := a3) (a4 := a4) (a5 := a5) (a6 := a6) on d k (at' + 1) (by omega) (by omega)
    obtain ⟨c, h1, h2⟩ := cntLe_lt cs on at' (by omega)
    have hx := ix_cs h1
    have hlt := (List.getElem?_eq_some_iff.mp h1).1
    have hlt2 : (at' : Int) < (cs.length : Int) := by omega
    have hlen : dLen [.tup (cs.map D.int)] = some (.int cs.length) := by rw [r_lenT, List.length_map]
    have ht : tW [a0, a1, a2, a3, a4, a5, a6, .va (.tup (cs.map D.int)), .va (.int at'), .va (.int on)] = .ok (true, [a0, a1, a2, a3, a4, a5, a6, .va (.tup (cs.map D.int)), .va (.int at'), .va (.int on)]) := by
      generalize D.tup (cs.map D.int) = z at hx hlen ⊢
      simp [tW, hlen, hlt2, hx, h2]
    have hb : b_shows_from_1 [a0, a1, a2, a3, a4, a5, a6, .va (.tup (cs.map D.int)), .va (.int at'), .va (.int on)] = .nx [a0, a1, a2, a3, a4, a5, a6, .va (.tup (cs.map D.int)), .va (.int (at' + 1 : Nat)), .va (.int on)] := by
      simp [b_shows_from_1]
    unfold whileGo
    rw [ht]
    simp only [r_sRs_ok, hb]
    exact ih
theorem forGo_ix {α : Type} {tg : D → Option (List (Nat × D))} {S : Type} {body : List B → Fl} (Rel : Nat → S → List B → Prop) (enc : α → D) (step : S → α → S) : ∀ (L : List α) (k : Nat) (s : S) (ρ : List B), Rel k s ρ →
    (∀ i a, L[i]? = some a → ∀ s ρ, Rel (k + i) s ρ → ∃ as ρ', tg (enc a) = some as ∧ body (putB ρ as) = .nx ρ' ∧ Rel (k + i + 1) (step s a) ρ') → ∃ ρ', forGo tg body (L.map enc) ρ = .nx ρ' ∧ Rel (k + L.length) (L.foldl step s) ρ'
  | [], k, s, ρ, h, _ => ⟨ρ, by simp [forGo], h⟩
  | a :: L, k, s, ρ, h, hb => by
    obtain ⟨as, ρ', h1, h2, h3⟩ := hb 0 a rfl s ρ h
    obtain ⟨ρ2, q1, q2⟩ := forGo_ix Rel enc step L (k + 1) (step s a) ρ' h3 fun i b hb' s ρ hr => by
      have := hb (i + 1) b (by simpa using hb') s ρ (by rw [show k + (i + 1) = k + 1 + i by omega]; exact hr)
      rw [show k + (i + 1) + 1 = k + 1 + i + 1 by omega] at this
      exact this
    refine ⟨ρ2, ?_, by rw [List.length_cons, show k + (L.length + 1) = k + 1 + L.length by omega]; exact q2⟩
    rw [List.map_cons]
    unfold forGo
    rw [h1]
    simp only [h2]
    exact q1
def sfS (n : Int) (cs : List Int) (l : Ln) (r : Ru) (t : Int) (acc : List D) (at' : Nat) (j9 : B) : List B := [.va (film n cs), .va (dLn l), .va (dRu r), .va (.int t), .va (.int (if l.1 - r.a > 0 then l.1 - r.a else 0)), .va (.int (l.1 + r.b)), .ow false acc, .va (.tup (cs.map D.int)), .va (.int at'), j9]
theorem sf_body (ha : Asc cs) (hc : cs.length ≤ 1000) (acc : List D) (hz : acc.length < sizeLine) (at' : Nat) (on : Int) (hat : at' ≤ cntLe cs on) : b_shows_from_2 (sfS n cs l r t acc at' (.va (.int on))) = .nx (sfS n cs l r t (if noCut cs on (on + l.2.2) = true then acc ++ [dSh (on, on + l.2.2)] else acc) (cntLe cs on) (.va (.int on))) := by
  have hw := while_cut (cs := cs) (a0 := .va (film n cs)) (a1 := .va (dLn l)) (a2 := .va (dRu r)) (a3 := .va (.int t)) (a4 := .va (.int (if l.1 - r.a > 0 then l.1 - r.a else 0))) (a5 := .va (.int (l.1 + r.b))) (a6 := .ow false acc) on (cntLe cs on - at') (2 ^ 40) at' (by omega) (by have := cntLe_le cs on; omega)
  have h1 : sWhile (2 ^ 40) (bAnd (bV (eOp dLt (eSlot 8) (eBlt dLen (aCons (eSlot 7) aNil)))) (bV (eOp dLe (eOp dIx (eSlot 7) (eSlot 8)) (eSlot 9)))) b_shows_from_1 (sfS n cs l r t acc at' (.va (.int on))) = .nx (sfS n cs l r t acc (cntLe cs on) (.va (.int on))) := by
    unfold sWhile sfS
    exact hw
  unfold b_shows_from_2
  refine (seq_nx h1).trans ?_
  rw [noCut_at cs ha]
  have hlen : dLen [.tup (cs.map D.int)] = some (.int cs.length) := by rw [r_lenT, List.length_map]
  have hk : dIx (dLn l) (.int 2) = some (.int l.2.2) := rfl
  rcases cntLe_at cs on with h | ⟨c, h1, h2⟩
  · have hn : cs[cntLe cs on]? = none := List.getElem?_eq_none (by omega)
    rw [hn]
    unfold sfS
    rw [h]
    generalize film n cs = zf
    generalize dLn l = zl at hk ⊢
    generalize D.tup (cs.map D.int) = z at hlen ⊢
    simp [hlen, hk, hz, dSh]
  · have hx := ix_cs h1
    have hlt := (List.getElem?_eq_some_iff.mp h1).1
    have hne : (((cntLe cs on : Nat) : Int) == (cs.length : Int)) = false := beq_eq_false_iff_ne.mpr (by omega)
    rw [h1]
    unfold sfS
    generalize film n cs = zf
    generalize dLn l = zl at hk ⊢
    generalize D.tup (cs.map D.int) = z at hlen hx ⊢
    generalize cntLe cs on = m at hne hx ⊢
    by_cases ho : on + l.2.2 ≤ c
    · simp [hlen, hk, hz, dSh, hne, hx, ho]
    · simp [hlen, hk, hz, dSh, hne, hx, ho]
theorem it2_int {f g : ES} {ρ ρ1 ρ2 : List B} {a b : Int} (h1 : 0 ≤ a) (h2 : a ≤ 100000) (h3 : -100000 ≤ b) (h4 : b ≤ 100000) (h : f ρ = .ok (.int a, ρ1)) (hg : g ρ1 = .ok (.int b, ρ2)) : iRange2 f g ρ = .ok ((List.range (b - a).toNat).map (fun (i : Nat) => D.int (a + i)), ρ2) := by
  have e : rangeD a b = some ((List.range (b - a).toNat).map (fun (i : Nat) => D.int (a + i))) := by
    unfold rangeD
    rw [if_pos (by omega)]
  unfold iRange2
  rw [h, Rs.ok_bind, hg, Rs.ok_bind]
  simp only [e, ofO_some, Rs.ok_bind]
structure OkS (n : Int) (cs : List Int) (l : Ln) (r : Ru) (t : Int) : Prop where
  f : OkF n cs
  l : 0 ≤ l.1 ∧ l.1 < l.2.1 ∧ l.2.1 ≤ n ∧ 1 ≤ l.2.2 ∧ l.2.2 ≤ 400
  r : OkR r
  t : -50000 ≤ t ∧ t ≤ 50000
theorem e_shows_from (h : OkS n cs l r t) : F_shows_from [.va (film n cs), .va (dLn l), .va (dRu r), .va (.int t)] = .ok (.lst ((showsF n cs l r t).map dSh), [.va (film n cs), .va (dLn l), .va (dRu r), .va (.int t)]) := by
  obtain ⟨hf, ⟨l1, l2, l3, l4, l5⟩, ⟨ra, rb, rc, rg⟩, ht⟩ := h
  have hn := hf.n1
  have hn2 := hf.n2
  have hlo := loT_nn l r t
  have hlo2 : loT l r t ≤ 60000 := by unfold loT; split <;> split <;> omega
  have hhi : hiT n l r ≤ 401 := by unfold hiT lastO; split <;> split <;> omega
  have hhi2 : -1000 ≤ hiT n l r := by unfold hiT lastO; split <;> split <;> omega
  have c1 := eCall_eq (Fn := F_ons_of) (a := (aCons (eSlot 1) (aCons (eSlot 2) aNil))) (ρ := [.va (film n cs), .va (dLn l), .va (dRu r), .va (.int t), .un, .un, .un, .un, .un, .un]) (ρ1 := [.va (film n cs), .va (dLn l), .va (dRu r), .va (.int t), .un, .un, .un, .un, .un, .un]) (ds := [dLn l, dRu r]) rfl (e_ons_of (l := l) (r := r))
  have g1 : t_shows_from_1 [.va (film n cs), .va (dLn l), .va (dRu r), .va (.int t), .un, .un, .un, .un, .un, .un] = .nx [.va (film n cs), .va (dLn l), .va (dRu r), .va (.int t), .va (.int (if l.1 - r.a > 0 then l.1 - r.a else 0)), .va (.int (l.1 + r.b)), .un, .un, .un, .un] := by
    unfold t_shows_from_1
    rw [r_sUnp, c1]
    rfl
  have g2 : t_shows_from_2 [.va (film n cs), .va (dLn l), .va (dRu r), .va (.int t), .va (.int (if l.1 - r.a > 0 then l.1 - r.a else 0)), .va (.int (l.1 + r.b)), .un, .un, .un, .un] = .nx (sfS n cs l r t [] 0 .un) := by
    unfold sfS
    have x := film1 (n := n) (cs := cs)
    generalize D.tup (cs.map D.int) = z at x ⊢
    generalize film n cs = zf at x ⊢
    generalize dLn l = zl
    generalize dRu r = zr
    simp [t_shows_from_2, x]
  obtain ⟨ρ', q1, q2⟩ := forGo_ix (tg := gN 9) (body := b_shows_from_2) (fun k (s : List D) ρ => ∃ at' j9, ρ = sfS n cs l r t s at' j9 ∧ at' ≤ cntLe cs (loT l r t + k) ∧ s.length ≤ k) (fun (i : Nat) => D.int (loT l r t + i)) (fun s (i : Nat) => if noCut cs (loT l r t + i) (loT l r t + i + l.2.2) = true then s ++ [dSh (loT l r t + i, loT l r t + i + l.2.2)] else s) (List.range (hiT n l r - loT l r t).toNat) 0 [] (sfS n cs l r t [] 0 .un) ⟨_, _, rfl, Nat.zero_le _, Nat.le_refl _⟩ (by
    rintro i a hia s ρ ⟨at', j9, rfl, h1, h2⟩
    have hlt := (List.getElem?_eq_some_iff.mp hia).1
    rw [List.length_range] at hlt
    rw [List.getElem?_range hlt] at hia
    obtain rfl := Option.some.inj hia
    rw [Nat.zero_add] at h1 h2 ⊢
    have hb := sf_body (n := n) (l := l) (r := r) (t := t) hf.asc hf.len s (by rw [sizeLine_eq]; omega) at' (loT l r t + i) h1
    refine ⟨[(9, .int (loT l r t + i))], _, rfl, hb, _, _, rfl, cntLe_mono cs _ _ (by omega), ?_⟩
    split
    · simp; omega
    · omega)
  obtain ⟨at', j9, rfl, _, _⟩ := q2
  have ef : ∀ (L : List Nat) (acc : List D), L.foldl (fun s (i : Nat) => if noCut cs (loT l r t + i) (loT l r t + i + l.2.2) = true then s ++ [dSh (loT l r t + i, loT l r t + i + l.2.2)] else s) acc = acc ++ (((L.map fun (i : Nat) => ((loT l r t + i : Int), (loT l r t + i : Int) + l.2.2)).filter fun p => noCut cs p.1 p.2)).map dSh := fun L => by
    induction L with
    | nil => intro acc; simp
    | cons a L ih =>
      intro acc
      rw [List.foldl_cons, ih, List.map_cons, List.filter_cons]
      by_cases hc : noCut cs (loT l r t + a) (loT l r t + a + l.2.2) = true
      · rw [if_pos hc, if_pos hc]; simp
      · rw [if_neg hc, if_neg hc]
  rw [ef, List.nil_append, ← showsF_eq (by omega) l4] at q1
  have c3 := eCall_eq (Fn := F_last_off) (a := (aCons (eSlot 0) (aCons (eSlot 1) (aCons (eSlot 2) aNil)))) (ρ := sfS n cs l r t [] 0 .un) (ρ1 := sfS n cs l r t [] 0 .un) (ds := [film n cs, dLn l, dRu r]) rfl (e_last_off (n := n) (cs := cs) (l := l) (r := r))
  have g3 : t_shows_from_3 (sfS n cs l r t [] 0 .un) = .nx (sfS n cs l r t ((showsF n cs l r t).map dSh) at' j9) := by
    have s4 : (sfS n cs l r t [] 0 .un)[4]? = some (.va (.int (if l.1 - r.a > 0 then l.1 - r.a else 0))) := rfl
    have s3 : (sfS n cs l r t [] 0 .un)[3]? = some (.va (.int t)) := rfl
    have s5 : (sfS n cs l r t [] 0 .un)[5]? = some (.va (.int (l.1 + r.b))) := rfl
    have s1 : (sfS n cs l r t [] 0 .un)[1]? = some (.va (dLn l)) := rfl
    have hk : dIx (dLn l) (.int 2) = some (.int l.2.2) := rfl
    have it := it2_int (f := (eBlt dMaxB (aCons (eSlot 4) (aCons (eSlot 3) aNil)))) (g := (eOp dAdd (eBlt dMinB (aCons (eSlot 5) (aCons (eOp dSub (eCall F_last_off (aCons (eSlot 0) (aCons (eSlot 1) (aCons (eSlot 2) aNil)))) (eOp dIx (eSlot 1) (eC (.int 2)))) aNil))) (eC (.int 1)))) (ρ := sfS n cs l r t [] 0 .un) (ρ1 := sfS n cs l r t [] 0 .un) (ρ2 := sfS n cs l r t [] 0 .un) (a := loT l r t) (b := hiT n l r) hlo (by omega) (by omega) (by omega) (by
      unfold loT
      generalize sfS n cs l r t [] 0 .un = ρ at s3 s4 ⊢
      generalize (if l.1 - r.a > 0 then l.1 - r.a else 0) = x at s4 ⊢
      simp [s3, s4]) (by
      unfold hiT
      generalize sfS n cs l r t [] 0 .un = ρ at s1 s5 c3 ⊢
      generalize lastO n l r = y at c3 ⊢
      generalize dLn l = zl at s1 hk ⊢
      simp [-r_eCall, c3, s1, s5, hk])
    unfold t_shows_from_3
    rw [r_sFor, it, r_sRs_ok]
    exact q1
  have g4 : t_shows_from_4 (sfS n cs l r t ((showsF n cs l r t).map dSh) at' j9) = .rt (.lst ((showsF n cs l r t).map dSh)) [.va (film n cs), .va (dLn l), .va (dRu r), .va (.int t), .va (.int (if l.1 - r.a > 0 then l.1 - r.a else 0)), .va (.int (l.1 + r.b)), .va (.lst ((showsF n cs l r t).map dSh)), .va (.tup (cs.map D.int)), .va (.int at'), j9] := rfl
  have h5 : g_shows_from ([.va (film n cs), .va (dLn l), .va (dRu r), .va (.int t)] ++ List.replicate 6 .un) = _ := (seq_nx g1).trans ((seq_nx g2).trans ((seq_nx g3).trans g4))
  exact call_of rfl h5 rfl
def oSh : Option (Int × Int) → D
  | none => .non
  | some p => dSh p
def firstS (n : Int) (cs : List Int) (l : Ln) (r : Ru) (t : Int) : Option (Int × Int) := (showsF n cs l r t).head?
theorem e_first_from (h : OkS n cs l r t) : F_first_from [.va (film n cs), .va (dLn l), .va (dRu r), .va (.int t)] = .ok (oSh (firstS n cs l r t), [.va (film n cs), .va (dLn l), .va (dRu r), .va (.int t)]) := by
  have c1 := eCall_eq (Fn := F_shows_from) (a := (aCons (eSlot 0) (aCons (eSlot 1) (aCons (eSlot 2) (aCons (eSlot 3) aNil))))) (ρ := [.va (film n cs), .va (dLn l), .va (dRu r), .va (.int t), .un]) (ρ1 := [.va (film n cs), .va (dLn l), .va (dRu r), .va (.int t), .un]) (ds := [film n cs, dLn l, dRu r, .int t]) rfl (e_shows_from h)
  have g1 : t_first_from_1 [.va (film n cs), .va (dLn l), .va (dRu r), .va (.int t), .un] = .nx [.va (film n cs), .va (dLn l), .va (dRu r), .va (.int t), .va (.lst ((showsF n cs l r t).map dSh))] := by
    unfold t_first_from_1
    rw [r_sSet, c1]
    rfl
  have g2 : t_first_from_2 [.va (film n cs), .va (dLn l), .va (dRu r), .va (.int t), .va (.lst ((showsF n cs l r t).map dSh))] = .rt (oSh (firstS n cs l r t)) [.va (film n cs), .va (dLn l), .va (dRu r), .va (.int t), .va (.lst ((showsF n cs l r t).map dSh))] := by
    unfold firstS
    have hn := ne_sh (showsF n cs l r t)
    cases hs : showsF n cs l r t with
    | nil =>
      rw [hs] at hn
      have hn : dNe (.lst []) (.lst []) = some (.bl false) := hn
      generalize film n cs = zf
      generalize dLn l = zl
      generalize dRu r = zr
      simp [t_first_from_2, hn, oSh]
    | cons p L =>
      rw [hs] at hn
      have hn : dNe (.lst ((p :: L).map dSh)) (.lst []) = some (.bl true) := hn
      have hx : dIx (.lst ((p :: L).map dSh)) (.int 0) = some (dSh p) := by
        rw [r_ixL]
        have : ixN ((p :: L).map dSh).length 0 = some 0 := by
          unfold ixN
          rw [if_pos (by omega), if_pos (by simp)]
          rfl
        rw [this]
        rfl
      generalize D.lst ((p :: L).map dSh) = z at hn hx ⊢
      generalize film n cs = zf
      generalize dLn l = zl
      generalize dRu r = zr
      simp [t_first_from_2, hn, hx, oSh]
  have h5 : g_first_from ([.va (film n cs), .va (dLn l), .va (dRu r), .va (.int t)] ++ List.replicate 1 .un) = _ := (seq_nx g1).trans g2
  exact call_of rfl h5 rfl
end My
namespace My
open PySem PySem.Spec PyProof.Rows L2 RT
variable {n : Int} {cs : List Int} {l : Ln} {r : Ru} {t : Int} {L : List Ln}
def gtold (n : Int) (cs : List Int) (r : Ru) : Int → Nat → List Ln → List (Int × Int) × Option Nat
  | _, _, [] => ([], none)
  | t, p, l :: L => match firstS n cs l r t with
    | none => ([], some p)
    | some s => (s :: (gtold n cs r (s.2 + r.g) (p + 1) L).1, (gtold n cs r (s.2 + r.g) (p + 1) L).2)
theorem firstS_mem {s : Int × Int} (h : firstS n cs l r t = some s) : s ∈ showsF n cs l r t := List.mem_of_mem_head? h
theorem shows_bd {s : Int × Int} (h : s ∈ showsF n cs l r t) : t ≤ s.1 ∧ 0 ≤ s.1 ∧ s.1 < n ∧ s.2 = s.1 + l.2.2 ∧ s.2 ≤ n ∧ fitB n cs l r s.1 s.2 = true := by
  obtain ⟨h1, h2⟩ := List.mem_filter.mp h
  obtain ⟨h3, h4⟩ := List.mem_filter.mp h1
  obtain ⟨h5, h6⟩ := List.mem_filter.mp h3
  obtain ⟨i, hi, rfl⟩ := List.mem_map.mp h5
  have := List.mem_range.mp hi
  exact ⟨of_decide_eq_true h2, by simp only; omega, by simp only; omega, rfl, of_decide_eq_true h6, h4⟩
def lastOff (acc : List (Int × Int)) (g : Int) : Int := match acc.getLast? with
  | none => 0
  | some s => s.2 + g
theorem ix_lastSh {acc : List (Int × Int)} {s : Int × Int} (h : acc.getLast? = some s) : dIx (.lst (acc.map dSh)) (.int (-1)) = some (dSh s) := by
  obtain ⟨a, rfl⟩ : ∃ a, acc = a ++ [s] := by
    have hne : acc ≠ [] := fun e => by rw [e] at h; cases h
    refine ⟨acc.dropLast, ?_⟩
    rw [List.getLast?_eq_some_getLast hne] at h
    rw [← Option.some.inj h]
    exact (List.dropLast_concat_getLast hne).symm
  rw [r_ixL]
  have : ixN ((a ++ [s]).map dSh).length (-1) = some a.length := by
    rw [List.length_map, List.length_append]
    unfold ixN
    rw [if_neg (by omega), if_pos (by simp; omega)]
    congr 1
    simp
    omega
  rw [this]
  simp
def tkE : ES := (eIf (bV (eOp dNe (eSlotW 3) (eO (oLst aNil)))) (eOp dAdd (eOp dIx (eOp dIx (eSlotW 3) (eUn dNeg (eC (.int 1)))) (eC (.int 1))) (eOp dIx (eSlot 2) (eC (.int 3)))) (eC (.int 0)))
theorem tk_e {a0 a1 a4 a5 a6 : B} (acc : List (Int × Int)) : tkE [a0, a1, .va (dRu r), .ow false (acc.map dSh), a4, a5, a6] = .ok (.int (lastOff acc r.g), [a0, a1, .va (dRu r), .ow false (acc.map dSh), a4, a5, a6]) := by
  have hn := ne_sh acc
  have hg : dIx (dRu r) (.int 3) = some (.int r.g) := rfl
  cases hl : acc.getLast? with
  | none =>
    have : acc = [] := List.getLast?_eq_none_iff.mp hl
    subst this
    have hn : dNe (.lst []) (.lst []) = some (.bl false) := hn
    simp [tkE, hn, lastOff]
  | some s =>
    have hx := ix_lastSh hl
    have h1 : dIx (dSh s) (.int 1) = some (.int s.2) := rfl
    have he : acc.isEmpty = false := by cases acc with
      | nil => cases hl
      | cons _ _ => rfl
    rw [he] at hn
    have e : lastOff acc r.g = s.2 + r.g := by unfold lastOff; rw [hl]
    rw [e]
    generalize dRu r = zr at hg ⊢
    generalize acc.map dSh = z at hn hx ⊢
    generalize dSh s = y at hx h1
    simp [tkE, hn, hx, h1, hg, -r_ixL]
theorem told_loop (hf : OkF n cs) (hr : OkR r) : ∀ (L : List Ln) (p : Nat) (acc : List (Int × Int)) (j4 j5 j6 : B), (∀ l ∈ L, 0 ≤ l.1 ∧ l.1 < l.2.1 ∧ l.2.1 ≤ n ∧ 1 ≤ l.2.2 ∧ l.2.2 ≤ 400) → (∀ s ∈ acc, 0 ≤ s.2 ∧ s.2 ≤ 400) → acc.length + L.length ≤ 1000 → ∀ Ld : D,
    ∃ j4' j5' j6', forGo (gT (gsCons (gN 4) (gsCons (gN 5) gsNil))) b_told_of_1 (enumD p (L.map dLn)) [.va (film n cs), .va Ld, .va (dRu r), .ow false (acc.map dSh), j4, j5, j6] =
      match (gtold n cs r (lastOff acc r.g) p L).2 with
      | none => .nx [.va (film n cs), .va Ld, .va (dRu r), .ow false ((acc ++ (gtold n cs r (lastOff acc r.g) p L).1).map dSh), j4', j5', j6']
      | some q => .rt (.tup [.lst ((acc ++ (gtold n cs r (lastOff acc r.g) p L).1).map dSh), .int (q : Int)]) [.va (film n cs), .va Ld, .va (dRu r), .va (.lst ((acc ++ (gtold n cs r (lastOff acc r.g) p L).1).map dSh)), j4', j5', j6']
  | [], p, acc, j4, j5, j6, _, _, _, Ld => ⟨j4, j5, j6, by simp [enumD, forGo, gtold]⟩
  | l :: L, p, acc, j4, j5, j6, hL, hacc, hz, Ld => by
    have hb : 0 ≤ lastOff acc r.g ∧ lastOff acc r.g ≤ 500 := by
      unfold lastOff
      cases hl : acc.getLast? with
      | none => exact ⟨Int.le_refl _, (show (0 : Int) ≤ 500 by decide)⟩
      | some s =>
        have := hacc s (List.mem_of_getLast? hl)
        have := hr.g
        exact ⟨by simp only; omega, by simp only; omega⟩
    have hok : OkS n cs l r (lastOff acc r.g) := ⟨hf, hL l List.mem_cons_self, hr, by omega, by omega⟩
    have hff := e_first_from hok
    have hz2 : acc.length < sizeLine := by rw [sizeLine_eq]; simp at hz; omega
    have c1 : ∀ j6 : B, eCall F_first_from (aCons (eSlot 0) (aCons (eSlot 5) (aCons (eSlot 2) (aCons (eIf (bV (eOp dNe (eSlotW 3) (eO (oLst aNil)))) (eOp dAdd (eOp dIx (eOp dIx (eSlotW 3) (eUn dNeg (eC (.int 1)))) (eC (.int 1))) (eOp dIx (eSlot 2) (eC (.int 3)))) (eC (.int 0))) aNil)))) [.va (film n cs), .va Ld, .va (dRu r), .ow false (acc.map dSh), .va (.int (p : Int)), .va (dLn l), j6] = .ok (oSh (firstS n cs l r (lastOff acc r.g)), [.va (film n cs), .va Ld, .va (dRu r), .ow false (acc.map dSh), .va (.int (p : Int)), .va (dLn l), j6]) := fun j6 => by
      refine eCall_eq (ds := [film n cs, dLn l, dRu r, .int (lastOff acc r.g)]) ?_ hff
      have := tk_e (a0 := .va (film n cs)) (a1 := .va Ld) (a4 := .va (.int (p : Int))) (a5 := .va (dLn l)) (a6 := j6) (r := r) acc
      unfold tkE at this
      simp only [r_aCons, r_aNil, r_eSlot, List.getElem?_cons_succ, List.getElem?_cons_zero, Rs.ok_bind, this]
    show ∃ j4' j5' j6', forGo _ b_told_of_1 (.tup [.int (p : Int), dLn l] :: enumD (p + 1) (L.map dLn)) _ = _
    unfold forGo
    simp only [r_gT, r_gsCons, r_gN, r_gsNil, Option.bind_some, List.append_nil, List.cons_append, List.nil_append, r_putB1, r_putB0, List.set_cons_succ, List.set_cons_zero]
    cases hs : firstS n cs l r (lastOff acc r.g) with
    | none =>
      have hb1 : b_told_of_1 [.va (film n cs), .va Ld, .va (dRu r), .ow false (acc.map dSh), .va (.int (p : Int)), .va (dLn l), j6] = .rt (.tup [.lst (acc.map dSh), .int (p : Int)]) [.va (film n cs), .va Ld, .va (dRu r), .va (.lst (acc.map dSh)), .va (.int (p : Int)), .va (dLn l), .va .non] := by
        have c1 := c1 j6
        rw [hs] at c1
        have f1 : sSet 6 (eCall F_first_from (aCons (eSlot 0) (aCons (eSlot 5) (aCons (eSlot 2) (aCons (eIf (bV (eOp dNe (eSlotW 3) (eO (oLst aNil)))) (eOp dAdd (eOp dIx (eOp dIx (eSlotW 3) (eUn dNeg (eC (.int 1)))) (eC (.int 1))) (eOp dIx (eSlot 2) (eC (.int 3)))) (eC (.int 0))) aNil))))) [.va (film n cs), .va Ld, .va (dRu r), .ow false (acc.map dSh), .va (.int (p : Int)), .va (dLn l), j6] = .nx [.va (film n cs), .va Ld, .va (dRu r), .ow false (acc.map dSh), .va (.int (p : Int)), .va (dLn l), .va .non] := by
          rw [r_sSet, c1]
          rfl
        unfold b_told_of_1
        refine (seq_nx f1).trans ?_
        generalize film n cs = zf
        generalize dLn l = zl
        generalize dRu r = zr
        generalize acc.map dSh = z
        simp [dIs, RT.isNon]
      refine ⟨.va (.int (p : Int)), .va (dLn l), .va .non, ?_⟩
      simp only [hb1, gtold, hs, List.append_nil]
    | some s =>
      have hb1 : b_told_of_1 [.va (film n cs), .va Ld, .va (dRu r), .ow false (acc.map dSh), .va (.int (p : Int)), .va (dLn l), j6] = .nx [.va (film n cs), .va Ld, .va (dRu r), .ow false ((acc ++ [s]).map dSh), .va (.int (p : Int)), .va (dLn l), .va (dSh s)] := by
        have c1 := c1 j6
        rw [hs] at c1
        have f1 : sSet 6 (eCall F_first_from (aCons (eSlot 0) (aCons (eSlot 5) (aCons (eSlot 2) (aCons (eIf (bV (eOp dNe (eSlotW 3) (eO (oLst aNil)))) (eOp dAdd (eOp dIx (eOp dIx (eSlotW 3) (eUn dNeg (eC (.int 1)))) (eC (.int 1))) (eOp dIx (eSlot 2) (eC (.int 3)))) (eC (.int 0))) aNil))))) [.va (film n cs), .va Ld, .va (dRu r), .ow false (acc.map dSh), .va (.int (p : Int)), .va (dLn l), j6] = .nx [.va (film n cs), .va Ld, .va (dRu r), .ow false (acc.map dSh), .va (.int (p : Int)), .va (dLn l), .va (dSh s)] := by
          rw [r_sSet, c1]
          rfl
        have hni : dIs (dSh s) .non = some (.bl false) := rfl
        unfold b_told_of_1
        refine (seq_nx f1).trans ?_
        rw [List.map_append, List.map_cons, List.map_nil]
        have hz3 : (acc.map dSh).length < sizeLine := by rw [List.length_map]; exact hz2
        generalize film n cs = zf
        generalize dLn l = zl
        generalize dRu r = zr
        generalize acc.map dSh = z at hz3 ⊢
        generalize dSh s = y at hni ⊢
        simp [hni, hz3]
      have sb := shows_bd (firstS_mem hs)
      have hl := hL l List.mem_cons_self
      obtain ⟨j4', j5', j6', ih⟩ := told_loop hf hr L (p + 1) (acc ++ [s]) (.va (.int (p : Int))) (.va (dLn l)) (.va (dSh s)) (fun x hx => hL x (List.mem_cons_of_mem _ hx)) (fun x hx => by
        rcases List.mem_append.mp hx with q | q
        · exact hacc x q
        · rw [List.mem_singleton.mp q]
          have := hf.n2
          omega) (by simp at hz ⊢; omega) Ld
      have e : lastOff (acc ++ [s]) r.g = s.2 + r.g := by unfold lastOff; simp
      rw [e] at ih
      refine ⟨j4', j5', j6', ?_⟩
      simp only [hb1]
      rw [ih]
      simp only [gtold, hs]
      rw [show acc ++ [s] ++ (gtold n cs r (s.2 + r.g) (p + 1) L).1 = acc ++ s :: (gtold n cs r (s.2 + r.g) (p + 1) L).1 by simp]
def oNat : Option Nat → D
  | none => .non
  | some q => .int (q : Int)
theorem e_told_of (hf : OkF n cs) (hr : OkR r) (hL : OkL n L) : F_told_of [.va (film n cs), .va (dL L), .va (dRu r)] = .ok (.tup [.lst ((gtold n cs r 0 0 L).1.map dSh), oNat (gtold n cs r 0 0 L).2], [.va (film n cs), .va (dL L), .va (dRu r)]) := by
  have hl := hL.len
  have g1 : t_told_of_1 [.va (film n cs), .va (dL L), .va (dRu r), .un, .un, .un, .un] = .nx [.va (film n cs), .va (dL L), .va (dRu r), .ow false (([] : List (Int × Int)).map dSh), .un, .un, .un] := by
    simp [t_told_of_1]
  obtain ⟨j4, j5, j6, h⟩ := told_loop hf hr L 0 [] .un .un .un hL.each (fun s h => nomatch h) (by simp; omega) (dL L)
  have e0 : lastOff [] r.g = 0 := rfl
  rw [e0, List.nil_append] at h
  have g2 : t_told_of_2 [.va (film n cs), .va (dL L), .va (dRu r), .ow false (([] : List (Int × Int)).map dSh), .un, .un, .un] = forGo (gT (gsCons (gN 4) (gsCons (gN 5) gsNil))) b_told_of_1 (enumD 0 (L.map dLn)) [.va (film n cs), .va (dL L), .va (dRu r), .ow false (([] : List (Int × Int)).map dSh), .un, .un, .un] := rfl
  have hz : 2 ≤ sizeLine := sz2
  cases hq : (gtold n cs r 0 0 L).2 with
  | none =>
    rw [hq] at h
    simp only at h
    have g3 : t_told_of_3 [.va (film n cs), .va (dL L), .va (dRu r), .ow false ((gtold n cs r 0 0 L).1.map dSh), j4, j5, j6] = .rt (.tup [.lst ((gtold n cs r 0 0 L).1.map dSh), .non]) [.va (film n cs), .va (dL L), .va (dRu r), .va (.lst ((gtold n cs r 0 0 L).1.map dSh)), j4, j5, j6] := by
      generalize film n cs = zf
      generalize dL L = zl
      generalize dRu r = zr
      generalize (gtold n cs r 0 0 L).1.map dSh = z
      simp [t_told_of_3]
    have h5 : g_told_of ([.va (film n cs), .va (dL L), .va (dRu r)] ++ List.replicate 4 .un) = _ := (seq_nx g1).trans ((seq_nx (g2.trans h)).trans g3)
    exact call_of rfl h5 rfl
  | some q =>
    rw [hq] at h
    simp only at h
    have h5 : g_told_of ([.va (film n cs), .va (dL L), .va (dRu r)] ++ List.replicate 4 .un) = _ := (seq_nx g1).trans (rt_seq (g2.trans h))
    exact call_of rfl h5 rfl
def paperD (n : Int) (cs : List Int) (r : Ru) (L : List Ln) : D := match (gtold n cs r 0 0 L).2 with
  | none => .tup [.str "plan", .tup ((gtold n cs r 0 0 L).1.map dSh)]
  | some q => .tup [.str "full", .int 0, .int (q : Int), .tup ((gtold n cs r 0 0 L).1.map fun s => .int s.2)]
theorem gtold_len : ∀ (L : List Ln) (t : Int) (p : Nat), (gtold n cs r t p L).1.length ≤ L.length
  | [], _, _ => Nat.le_refl _
  | l :: L, t, p => by
    unfold gtold
    cases firstS n cs l r t with
    | none => exact Nat.zero_le _
    | some s =>
      have := gtold_len L (s.2 + r.g) (p + 1)
      simp only [List.length_cons]
      omega
theorem e_paper_of (hf : OkF n cs) (hr : OkR r) (hL : OkL n L) : F_paper_of [.va (film n cs), .va (dL L), .va (dRu r)] = .ok (paperD n cs r L, [.va (film n cs), .va (dL L), .va (dRu r)]) := by
  have hl := hL.len
  have hgl := gtold_len (n := n) (cs := cs) (r := r) L 0 0
  have c1 := eCall_eq (Fn := F_told_of) (a := (aCons (eSlot 0) (aCons (eSlot 1) (aCons (eSlot 2) aNil)))) (ρ := [.va (film n cs), .va (dL L), .va (dRu r), .un, .un, .un, .un]) (ρ1 := [.va (film n cs), .va (dL L), .va (dRu r), .un, .un, .un, .un]) (ds := [film n cs, dL L, dRu r]) rfl (e_told_of hf hr hL)
  have g1 : t_paper_of_1 [.va (film n cs), .va (dL L), .va (dRu r), .un, .un, .un, .un] = .nx [.va (film n cs), .va (dL L), .va (dRu r), .va (.lst ((gtold n cs r 0 0 L).1.map dSh)), .va (oNat (gtold n cs r 0 0 L).2), .un, .un] := by
    unfold t_paper_of_1
    rw [r_sUnp, c1]
    rfl
  unfold paperD
  cases hq : (gtold n cs r 0 0 L).2 with
  | none =>
    rw [hq] at g1
    have g2 : t_paper_of_2 [.va (film n cs), .va (dL L), .va (dRu r), .va (.lst ((gtold n cs r 0 0 L).1.map dSh)), .va (oNat none), .un, .un] = .rt (.tup [.str "plan", .tup ((gtold n cs r 0 0 L).1.map dSh)]) [.va (film n cs), .va (dL L), .va (dRu r), .va (.lst ((gtold n cs r 0 0 L).1.map dSh)), .va (oNat none), .un, .un] := by
      generalize film n cs = zf
      generalize dL L = zl
      generalize dRu r = zr
      generalize (gtold n cs r 0 0 L).1.map dSh = z
      simp [t_paper_of_2, oNat, dIs, RT.isNon]
    have h5 : g_paper_of ([.va (film n cs), .va (dL L), .va (dRu r)] ++ List.replicate 4 .un) = _ := (seq_nx g1).trans (rt_seq g2)
    exact call_of rfl h5 rfl
  | some q =>
    rw [hq] at g1
    have g2 : t_paper_of_2 [.va (film n cs), .va (dL L), .va (dRu r), .va (.lst ((gtold n cs r 0 0 L).1.map dSh)), .va (oNat (some q)), .un, .un] = .nx [.va (film n cs), .va (dL L), .va (dRu r), .va (.lst ((gtold n cs r 0 0 L).1.map dSh)), .va (oNat (some q)), .un, .un] := by
      generalize film n cs = zf
      generalize dL L = zl
      generalize dRu r = zr
      generalize (gtold n cs r 0 0 L).1.map dSh = z
      simp [t_paper_of_2, oNat, dIs, RT.isNon]
    have c : c_paper_of_1 [.va (film n cs), .va (dL L), .va (dRu r), .va (.lst ((gtold n cs r 0 0 L).1.map dSh)), .va (oNat (some q)), .un, .un] = .ok ((gtold n cs r 0 0 L).1.map (fun s => .int s.2), [.va (film n cs), .va (dL L), .va (dRu r), .va (.lst ((gtold n cs r 0 0 L).1.map dSh)), .va (oNat (some q)), .un, .un]) := by
      unfold c_paper_of_1
      refine oLc_map (gtold n cs r 0 0 L).1 dSh _ rfl rfl ?_ (szn (by omega))
      intro s _
      exact ⟨[(5, .int s.1), (6, .int s.2)], rfl, by simp, by simp⟩
    have g3 : t_paper_of_3 [.va (film n cs), .va (dL L), .va (dRu r), .va (.lst ((gtold n cs r 0 0 L).1.map dSh)), .va (oNat (some q)), .un, .un] = .rt (.tup [.str "full", .int 0, .int (q : Int), .tup ((gtold n cs r 0 0 L).1.map fun s => .int s.2)]) [.va (film n cs), .va (dL L), .va (dRu r), .va (.lst ((gtold n cs r 0 0 L).1.map dSh)), .va (oNat (some q)), .un, .un] := by
      generalize film n cs = zf at c ⊢
      generalize dL L = zl at c ⊢
      generalize dRu r = zr at c ⊢
      generalize (gtold n cs r 0 0 L).1.map dSh = z at c ⊢
      generalize (gtold n cs r 0 0 L).1.map (fun s => D.int s.2) = y at c ⊢
      unfold oNat at c ⊢
      simp [t_paper_of_3, c]
    have h5 : g_paper_of ([.va (film n cs), .va (dL L), .va (dRu r)] ++ List.replicate 4 .un) = _ := (seq_nx g1).trans ((seq_nx g2).trans g3)
    exact call_of rfl h5 rfl
theorem e_can_told (hf : OkF n cs) (hr : OkR r) (hL : OkL n L) : F_can_told [.va (film n cs), .va (dL L), .va (dRu r)] = .ok (paperD n cs r L, [.va (film n cs), .va (dL L), .va (dRu r)]) := by
  have c1 := eCall_eq (Fn := F_check_rules) (a := (aCons (eSlot 0) (aCons (eSlot 1) (aCons (eSlot 2) aNil)))) (ρ := [.va (film n cs), .va (dL L), .va (dRu r)]) (ρ1 := [.va (film n cs), .va (dL L), .va (dRu r)]) (ds := [film n cs, dL L, dRu r]) rfl (e_check_rules hf hL hr)
  have c2 := eCall_eq (Fn := F_paper_of) (a := (aCons (eSlot 0) (aCons (eSlot 1) (aCons (eSlot 2) aNil)))) (ρ := [.va (film n cs), .va (dL L), .va (dRu r)]) (ρ1 := [.va (film n cs), .va (dL L), .va (dRu r)]) (ds := [film n cs, dL L, dRu r]) rfl (e_paper_of hf hr hL)
  have g1 : t_can_told_1 [.va (film n cs), .va (dL L), .va (dRu r)] = .nx [.va (film n cs), .va (dL L), .va (dRu r)] := by
    unfold t_can_told_1
    rw [r_sDo, c1]
    rfl
  have g2 : t_can_told_2 [.va (film n cs), .va (dL L), .va (dRu r)] = .rt (paperD n cs r L) [.va (film n cs), .va (dL L), .va (dRu r)] := by
    unfold t_can_told_2
    rw [r_sRet, c2]
    rfl
  have h5 : g_can_told ([.va (film n cs), .va (dL L), .va (dRu r)] ++ List.replicate 0 .un) = _ := (seq_nx g1).trans g2
  exact call_of rfl h5 rfl
end My
namespace My
open PySem PySem.Spec PyProof.Rows L2 RT
variable {n : Int} {cs : List Int} {l : Ln} {r : Ru} {t : Int} {L : List Ln}
def cutB (cs : List Int) (on off : Int) : Bool := cs.any fun c => decide (on < c) && decide (c < off)
def suitB (n : Int) (cs : List Int) (l : Ln) (r : Ru) (on off : Int) : Bool :=
  decide ((if l.1 - r.a > 0 then l.1 - r.a else 0) ≤ on) && decide (on ≤ l.1 + r.b) && !(decide (off > lastO n l r) || decide (off - on < l.2.2)) && !(cutB cs on off)
theorem suit_fit {on off : Int} (h : 0 ≤ on) : suitB n cs l r on off = fitB n cs l r on off := by
  unfold suitB fitB noCut cutB
  cases (cs.any fun c => decide (on < c) && decide (c < off)) with
  | true => simp
  | false =>
    simp only [Bool.not_false, Bool.and_true]
    rw [Bool.eq_iff_iff]
    simp only [Bool.and_eq_true, Bool.not_eq_true', Bool.or_eq_false_iff, decide_eq_true_eq, decide_eq_false_iff_not]
    have hl : lastO n l r = if l.2.1 + r.c < n then l.2.1 + r.c else n := rfl
    generalize lastO n l r = y at hl ⊢
    constructor
    · rintro ⟨⟨h1, h2⟩, h3, h4⟩
      split at h1 <;> split at hl <;> (refine ⟨⟨⟨⟨?_, ?_⟩, ?_⟩, ?_⟩, ?_⟩ <;> omega)
    · rintro ⟨⟨⟨⟨h1, h2⟩, h3⟩, h4⟩, h5⟩
      refine ⟨⟨?_, ?_⟩, ?_, ?_⟩ <;> (try split) <;> split at hl <;> omega
theorem e_is_cut (hc : cs.length ≤ 1000) (on off : Int) : F_is_cut [.va (film n cs), .va (.int on), .va (.int off)] = .ok (.bl (cutB cs on off), [.va (film n cs), .va (.int on), .va (.int off)]) := by
  have c : c_is_cut_1 [.va (film n cs), .va (.int on), .va (.int off), .un] = .ok (cs.map (fun c => .bl (decide (on < c) && decide (c < off))), [.va (film n cs), .va (.int on), .va (.int off), .un]) := by
    unfold c_is_cut_1
    refine oLc_map cs D.int _ rfl rfl ?_ (szn (by omega))
    intro c _
    refine ⟨[(3, .int c)], rfl, by simp, ?_⟩
    by_cases h : on < c <;> simp [h]
  have a1 : dAny [.lst (cs.map fun c => D.bl (decide (on < c) && decide (c < off)))] = some (.bl (cutB cs on off)) := by
    have e : (cs.map fun c => D.bl (decide (on < c) && decide (c < off))) = (cs.map fun c => decide (on < c) && decide (c < off)).map D.bl := by rw [List.map_map] <;> rfl
    rw [e, r_anyL]
    unfold cutB
    simp
  suffices h : g_is_cut ([.va (film n cs), .va (.int on), .va (.int off)] ++ List.replicate 1 .un) = .rt (.bl (cutB cs on off)) [.va (film n cs), .va (.int on), .va (.int off), .un] from call_of rfl h rfl
  show g_is_cut [.va (film n cs), .va (.int on), .va (.int off), .un] = .rt (.bl (cutB cs on off)) [.va (film n cs), .va (.int on), .va (.int off), .un]
  simp only [g_is_cut, r_sRet, r_eBlt, r_aCons, r_aNil, r_eO, c, Rs.ok_bind, a1, ofO_some, r_sRs_ok]
theorem e_suits (hc : cs.length ≤ 1000) (s : Int × Int) : F_suits [.va (film n cs), .va (dLn l), .va (dRu r), .va (dSh s)] = .ok (.bl (suitB n cs l r s.1 s.2), [.va (film n cs), .va (dLn l), .va (dRu r), .va (dSh s)]) := by
  have g1 : t_suits_1 [.va (film n cs), .va (dLn l), .va (dRu r), .va (dSh s), .un, .un, .un, .un] = .nx [.va (film n cs), .va (dLn l), .va (dRu r), .va (dSh s), .va (.int s.1), .va (.int s.2), .un, .un] := rfl
  have c1 := eCall_eq (Fn := F_ons_of) (a := (aCons (eSlot 1) (aCons (eSlot 2) aNil))) (ρ := [.va (film n cs), .va (dLn l), .va (dRu r), .va (dSh s), .va (.int s.1), .va (.int s.2), .un, .un]) (ρ1 := [.va (film n cs), .va (dLn l), .va (dRu r), .va (dSh s), .va (.int s.1), .va (.int s.2), .un, .un]) (ds := [dLn l, dRu r]) rfl (e_ons_of (l := l) (r := r))
  have g2 : t_suits_2 [.va (film n cs), .va (dLn l), .va (dRu r), .va (dSh s), .va (.int s.1), .va (.int s.2), .un, .un] = .nx [.va (film n cs), .va (dLn l), .va (dRu r), .va (dSh s), .va (.int s.1), .va (.int s.2), .va (.int (if l.1 - r.a > 0 then l.1 - r.a else 0)), .va (.int (l.1 + r.b))] := by
    unfold t_suits_2
    rw [r_sUnp, c1]
    rfl
  have c2 := eCall_eq (Fn := F_last_off) (a := (aCons (eSlot 0) (aCons (eSlot 1) (aCons (eSlot 2) aNil)))) (ρ := [.va (film n cs), .va (dLn l), .va (dRu r), .va (dSh s), .va (.int s.1), .va (.int s.2), .va (.int (if l.1 - r.a > 0 then l.1 - r.a else 0)), .va (.int (l.1 + r.b))]) (ρ1 := [.va (film n cs), .va (dLn l), .va (dRu r), .va (dSh s), .va (.int s.1), .va (.int s.2), .va (.int (if l.1 - r.a > 0 then l.1 - r.a else 0)), .va (.int (l.1 + r.b))]) (ds := [film n cs, dLn l, dRu r]) rfl (e_last_off (n := n) (cs := cs) (l := l) (r := r))
  have c3 := eCall_eq (Fn := F_is_cut) (a := (aCons (eSlot 0) (aCons (eSlot 4) (aCons (eSlot 5) aNil)))) (ρ := [.va (film n cs), .va (dLn l), .va (dRu r), .va (dSh s), .va (.int s.1), .va (.int s.2), .va (.int (if l.1 - r.a > 0 then l.1 - r.a else 0)), .va (.int (l.1 + r.b))]) (ρ1 := [.va (film n cs), .va (dLn l), .va (dRu r), .va (dSh s), .va (.int s.1), .va (.int s.2), .va (.int (if l.1 - r.a > 0 then l.1 - r.a else 0)), .va (.int (l.1 + r.b))]) (ds := [film n cs, .int s.1, .int s.2]) rfl (e_is_cut hc s.1 s.2)
  have hk : dIx (dLn l) (.int 2) = some (.int l.2.2) := rfl
  have main : ∀ G : List B → Fl, G = sSeq t_suits_3 t_suits_4 → G [.va (film n cs), .va (dLn l), .va (dRu r), .va (dSh s), .va (.int s.1), .va (.int s.2), .va (.int (if l.1 - r.a > 0 then l.1 - r.a else 0)), .va (.int (l.1 + r.b))] = .rt (.bl (suitB n cs l r s.1 s.2)) [.va (film n cs), .va (dLn l), .va (dRu r), .va (dSh s), .va (.int s.1), .va (.int s.2), .va (.int (if l.1 - r.a > 0 then l.1 - r.a else 0)), .va (.int (l.1 + r.b))] := by
    rintro G rfl
    unfold suitB
    generalize (if l.1 - r.a > 0 then l.1 - r.a else 0) = lo at c2 c3 ⊢
    generalize lastO n l r = y at c2 ⊢
    generalize cutB cs s.1 s.2 = k at c3 ⊢
    generalize film n cs = zf at c2 c3 ⊢
    generalize dLn l = zl at hk c2 c3 ⊢
    generalize dRu r = zr at c2 c3 ⊢
    generalize dSh s = zs at c2 c3 ⊢
    by_cases h1 : lo ≤ s.1
    · by_cases h2 : s.1 ≤ l.1 + r.b
      · by_cases h3 : s.2 > y
        · have h3' : y < s.2 := h3
          simp [t_suits_3, -r_eCall, c2, h1, h2, h3']
        · have h3' : ¬ y < s.2 := h3
          by_cases h4 : s.2 - s.1 < l.2.2
          · simp [t_suits_3, -r_eCall, c2, h1, h2, h3', hk, h4]
          · simp [t_suits_3, t_suits_4, -r_eCall, c2, c3, h1, h2, h3', hk, h4]
      · simp [t_suits_3, h1, h2]
    · simp [t_suits_3, h1]
  have h5 : g_suits ([.va (film n cs), .va (dLn l), .va (dRu r), .va (dSh s)] ++ List.replicate 4 .un) = _ := (seq_nx g1).trans ((seq_nx g2).trans (main _ rfl))
  exact call_of rfl h5 rfl
def wrongP (n : Int) (cs : List Int) (r : Ru) : Option Int → Nat → List Ln → List (Int × Int) → Option (Nat × Bool)
  | pv, p, l :: L, s :: S => if fitB n cs l r s.1 s.2 = true then
      (if pv.any (fun o => decide (s.1 < o + r.g)) = true then some (p, false) else wrongP n cs r (some s.2) (p + 1) L S)
    else some (p, true)
  | _, _, _, _ => none
def dWr : Option (Nat × Bool) → D
  | none => .non
  | some (p, true) => .tup [.int (p : Int), .str "unfit"]
  | some (p, false) => .tup [.int (p : Int), .str "near"]
def pvOf (P : List (Int × Int)) (p : Nat) : Option Int := if p = 0 then none else (P[p - 1]?).map (·.2)
theorem ix_L {k : Nat} (h : L[k]? = some l) : dIx (dL L) (.int (k : Int)) = some (dLn l) := by
  have hk := (List.getElem?_eq_some_iff.mp h).1
  unfold dL
  rw [r_ixT]
  have : ixN (L.map dLn).length (k : Int) = some k := by
    rw [List.length_map]
    unfold ixN
    rw [if_pos (by omega), if_pos (by omega)]
    simp
  rw [this]
  simp [h]
theorem ix_P {P : List (Int × Int)} {k : Nat} {s : Int × Int} (h : P[k]? = some s) : dIx (.tup (P.map dSh)) (.int (k : Int)) = some (dSh s) ∧ dIx (.lst (P.map dSh)) (.int (k : Int)) = some (dSh s) := by
  have hk := (List.getElem?_eq_some_iff.mp h).1
  have : ixN (P.map dSh).length (k : Int) = some k := by
    rw [List.length_map]
    unfold ixN
    rw [if_pos (by omega), if_pos (by omega)]
    simp
  rw [r_ixT, r_ixL, this]
  simp [h]
theorem wrong_loop {Pd : D} {P : List (Int × Int)} (hP : ∀ (k : Nat) (s : Int × Int), P[k]? = some s → dIx Pd (.int (k : Int)) = some (dSh s)) (hPn : ∀ s ∈ P, 0 ≤ s.1) (hc : cs.length ≤ 1000) : ∀ (S : List (Int × Int)) (p : Nat) (j4 j5 : B), P.drop p = S → p + S.length ≤ L.length →
    ∃ j4' j5', forGo (gT (gsCons (gN 4) (gsCons (gN 5) gsNil))) b_wrong_of_1 (enumD p (S.map dSh)) [.va (film n cs), .va (dL L), .va (dRu r), .va Pd, j4, j5] =
      match wrongP n cs r (pvOf P p) p (L.drop p) S with
      | none => .nx [.va (film n cs), .va (dL L), .va (dRu r), .va Pd, j4', j5']
      | some q => .rt (dWr (some q)) [.va (film n cs), .va (dL L), .va (dRu r), .va Pd, j4', j5']
  | [], p, j4, j5, _, _ => ⟨j4, j5, by
    have : wrongP n cs r (pvOf P p) p (L.drop p) [] = none := by unfold wrongP; cases L.drop p <;> rfl
    rw [this]
    simp [enumD, forGo]⟩
  | s :: S, p, j4, j5, hd, hl => by
    have hps : P[p]? = some s := by
      have := congrArg (fun x => x[0]?) hd
      simpa using this
    have hpl : p < L.length := by simp at hl; omega
    have hd2 : P.drop (p + 1) = S := by
      have := congrArg (List.drop 1) hd
      rw [List.drop_drop] at this
      simpa [Nat.add_comm] using this
    have hLd : L.drop p = L[p] :: L.drop (p + 1) := List.drop_eq_getElem_cons hpl
    have hLp : L[p]? = some L[p] := List.getElem?_eq_getElem hpl
    generalize L[p] = l at hLd hLp
    have hx := ix_L hLp
    have hs := e_suits (n := n) (l := l) (r := r) hc s
    rw [suit_fit (hPn s (List.mem_of_getElem? hps))] at hs
    show ∃ j4' j5', forGo _ b_wrong_of_1 (.tup [.int (p : Int), dSh s] :: enumD (p + 1) (S.map dSh)) _ = _
    unfold forGo
    simp only [r_gT, r_gsCons, r_gN, r_gsNil, Option.bind_some, List.append_nil, List.cons_append, List.nil_append, r_putB1, r_putB0, List.set_cons_succ, List.set_cons_zero]
    have c1 : eCall F_suits (aCons (eSlot 0) (aCons (eOp dIx (eSlot 1) (eSlot 4)) (aCons (eSlot 2) (aCons (eSlot 5) aNil)))) [.va (film n cs), .va (dL L), .va (dRu r), .va Pd, .va (.int (p : Int)), .va (dSh s)] = .ok (.bl (fitB n cs l r s.1 s.2), [.va (film n cs), .va (dL L), .va (dRu r), .va Pd, .va (.int (p : Int)), .va (dSh s)]) := by
      refine eCall_eq (ds := [film n cs, dLn l, dRu r, dSh s]) ?_ hs
      generalize dL L = z at hx ⊢
      simp [hx]
    rw [hLd]
    cases hfit : fitB n cs l r s.1 s.2 with
    | false =>
      rw [hfit] at c1
      have hb : b_wrong_of_1 [.va (film n cs), .va (dL L), .va (dRu r), .va Pd, .va (.int (p : Int)), .va (dSh s)] = .rt (.tup [.int (p : Int), .str "unfit"]) [.va (film n cs), .va (dL L), .va (dRu r), .va Pd, .va (.int (p : Int)), .va (dSh s)] := by
        unfold b_wrong_of_1
        generalize (eCall F_suits (aCons (eSlot 0) (aCons (eOp dIx (eSlot 1) (eSlot 4)) (aCons (eSlot 2) (aCons (eSlot 5) aNil))))) = ce at c1 ⊢
        generalize film n cs = zf at c1 ⊢
        generalize dL L = zl at c1 ⊢
        generalize dRu r = zr at c1 ⊢
        generalize dSh s = zs at c1 ⊢
        simp [c1]
      refine ⟨.va (.int (p : Int)), .va (dSh s), ?_⟩
      simp only [hb]
      unfold wrongP
      simp only [hfit, Bool.false_eq_true, if_false]
      rfl
    | true =>
      rw [hfit] at c1
      have h0 : dIx (dSh s) (.int 0) = some (.int s.1) := rfl
      have hg : dIx (dRu r) (.int 3) = some (.int r.g) := rfl
      have fin : ∀ k : Bool, (pvOf P p).any (fun o => decide (s.1 < o + r.g)) = k → b_wrong_of_1 [.va (film n cs), .va (dL L), .va (dRu r), .va Pd, .va (.int (p : Int)), .va (dSh s)] = if k = true then .rt (.tup [.int (p : Int), .str "near"]) [.va (film n cs), .va (dL L), .va (dRu r), .va Pd, .va (.int (p : Int)), .va (dSh s)] else .nx [.va (film n cs), .va (dL L), .va (dRu r), .va Pd, .va (.int (p : Int)), .va (dSh s)] := by
        intro k hk
        unfold b_wrong_of_1
        by_cases hp0 : p = 0
        · subst hp0
          have hk : k = false := by rw [← hk]; rfl
          subst hk
          generalize (eCall F_suits (aCons (eSlot 0) (aCons (eOp dIx (eSlot 1) (eSlot 4)) (aCons (eSlot 2) (aCons (eSlot 5) aNil))))) = ce at c1 ⊢
          generalize film n cs = zf at c1 ⊢
          generalize dL L = zl at c1 ⊢
          generalize dRu r = zr at c1 ⊢
          generalize dSh s = zs at c1 ⊢
          have c1 : ce [.va zf, .va zl, .va zr, .va Pd, .va (.int 0), .va zs] = .ok (.bl true, [.va zf, .va zl, .va zr, .va Pd, .va (.int 0), .va zs]) := c1
          simp [c1]
        · have hlt : p - 1 < P.length := by have := (List.getElem?_eq_some_iff.mp hps).1; omega
          have hq := List.getElem?_eq_getElem hlt
          generalize P[p - 1] = s0 at hq
          have hx0 := hP (p - 1) s0 hq
          rw [show ((p - 1 : Nat) : Int) = (p : Int) - 1 by omega] at hx0
          have h1 : dIx (dSh s0) (.int 1) = some (.int s0.2) := rfl
          have hpp : 0 < p := by omega
          have hk : k = decide (s.1 < s0.2 + r.g) := by
            rw [← hk]
            unfold pvOf
            rw [if_neg hp0, hq]
            rfl
          subst hk
          generalize (eCall F_suits (aCons (eSlot 0) (aCons (eOp dIx (eSlot 1) (eSlot 4)) (aCons (eSlot 2) (aCons (eSlot 5) aNil))))) = ce at c1 ⊢
          generalize film n cs = zf at c1 ⊢
          generalize dL L = zl at c1 ⊢
          generalize dRu r = zr at c1 hg ⊢
          generalize dSh s = zs at c1 h0 ⊢
          generalize dSh s0 = zs0 at hx0 h1
          by_cases hc : s.1 < s0.2 + r.g
          · simp [c1, hpp, h0, hx0, h1, hg, hc]
          · simp [c1, hpp, h0, hx0, h1, hg, hc]
      have hb := fin _ rfl
      cases hany : (pvOf P p).any (fun o => decide (s.1 < o + r.g)) with
      | true =>
        rw [hany] at hb
        rw [if_pos rfl] at hb
        refine ⟨.va (.int (p : Int)), .va (dSh s), ?_⟩
        simp only [hb]
        unfold wrongP
        simp only [hfit, if_true, hany]
        rfl
      | false =>
        rw [hany] at hb
        rw [if_neg Bool.false_ne_true] at hb
        obtain ⟨j4', j5', ih⟩ := wrong_loop hP hPn hc S (p + 1) (.va (.int (p : Int))) (.va (dSh s)) hd2 (by simp at hl; omega)
        refine ⟨j4', j5', ?_⟩
        simp only [hb]
        rw [ih]
        have e : pvOf P (p + 1) = some s.2 := by
          unfold pvOf
          rw [if_neg (by omega), show p + 1 - 1 = p by omega, hps]
          rfl
        rw [e]
        have e2 : wrongP n cs r (pvOf P p) p (l :: L.drop (p + 1)) (s :: S) = wrongP n cs r (some s.2) (p + 1) (L.drop (p + 1)) S := by
          rw [wrongP]
          simp only [hfit, if_true, hany, Bool.false_eq_true, if_false]
        rw [e2]
theorem e_wrong_of {P : List (Int × Int)} (hPn : ∀ s ∈ P, 0 ≤ s.1) (hc : cs.length ≤ 1000) (hl : P.length = L.length) : F_wrong_of [.va (film n cs), .va (dL L), .va (dRu r), .va (.tup (P.map dSh))] = .ok (dWr (wrongP n cs r none 0 L P), [.va (film n cs), .va (dL L), .va (dRu r), .va (.tup (P.map dSh))]) := by
  obtain ⟨j4, j5, h⟩ := wrong_loop (Pd := .tup (P.map dSh)) (n := n) (r := r) (L := L) (fun k s h => (ix_P h).1) hPn hc P 0 .un .un rfl (by omega)
  have e0 : pvOf P 0 = none := rfl
  rw [e0, List.drop_zero] at h
  have g1 : t_wrong_of_1 [.va (film n cs), .va (dL L), .va (dRu r), .va (.tup (P.map dSh)), .un, .un] = forGo (gT (gsCons (gN 4) (gsCons (gN 5) gsNil))) b_wrong_of_1 (enumD 0 (P.map dSh)) [.va (film n cs), .va (dL L), .va (dRu r), .va (.tup (P.map dSh)), .un, .un] := rfl
  cases hq : wrongP n cs r none 0 L P with
  | none =>
    rw [hq] at h
    have h5 : g_wrong_of ([.va (film n cs), .va (dL L), .va (dRu r), .va (.tup (P.map dSh))] ++ List.replicate 2 .un) = .rt .non [.va (film n cs), .va (dL L), .va (dRu r), .va (.tup (P.map dSh)), j4, j5] := (seq_nx (g1.trans h)).trans rfl
    exact call_of rfl h5 rfl
  | some q =>
    rw [hq] at h
    have h5 : g_wrong_of ([.va (film n cs), .va (dL L), .va (dRu r), .va (.tup (P.map dSh))] ++ List.replicate 2 .un) = _ := rt_seq (g1.trans h)
    exact call_of rfl h5 rfl
def pr2 : List D → Bool
  | [.int a, .int b] => decide (a < b)
  | _ => false
def shB : D → Bool
  | .tup ds => ds.all (btw 0 400) && pr2 ds
  | _ => false
theorem pr2_ne (is : List Int) (h : is.length ≠ 2) : pr2 (is.map D.int) = false := by
  match is, h with
  | [], _ => rfl
  | [a], _ => rfl
  | a :: b :: c :: r, _ => rfl
  | [a, b], h => exact absurd rfl h
theorem e_is_show (v : D) (hz : ∀ ds, v = .tup ds → ds.length ≤ 1000) : F_is_show [.va v] = .ok (.bl (shB v), [.va v]) := by
  have fin : ∀ v : D, g_is_show [.va v] = .rt (.bl (shB v)) [.va v] → F_is_show [.va v] = .ok (.bl (shB v), [.va v]) := fun v h => call_of (n := 1) (m := 0) (g := g_is_show) (args := [.va v]) (ρ' := [.va v]) (r := [.va v]) rfl h rfl
  cases v with
  | tup ds =>
    refine fin _ ?_
    have a1 := e_are_between ds (szn (by have := hz ds rfl; omega)) 0 400
    have e : shB (.tup ds) = (ds.all (btw 0 400) && pr2 ds) := rfl
    rw [e]
    cases hb : ds.all (btw 0 400) with
    | false =>
      rw [hb] at a1
      generalize D.tup ds = z at a1 ⊢
      simp [g_is_show, a1]
    | true =>
      rw [hb] at a1
      obtain ⟨is, rfl, hi⟩ := btw_ints 0 400 ds hb
      have hln : dLen [.tup (is.map D.int)] = some (.int is.length) := by rw [r_lenT, List.length_map]
      by_cases h2 : is.length = 2
      · obtain ⟨a, b, rfl⟩ : ∃ a b, is = [a, b] := by
          match is, h2 with
          | [a, b], _ => exact ⟨a, b, rfl⟩
        have hx0 : dIx (.tup ([a, b].map D.int)) (.int 0) = some (.int a) := rfl
        have hx1 : dIx (.tup ([a, b].map D.int)) (.int 1) = some (.int b) := rfl
        have e2 : pr2 ([a, b].map D.int) = decide (a < b) := rfl
        rw [e2]
        generalize D.tup ([a, b].map D.int) = z at a1 hln hx0 hx1 ⊢
        simp [g_is_show, a1, hln, hx0, hx1]
      · rw [pr2_ne is h2]
        have h3 : ((is.length : Int) == 2) = false := beq_eq_false_iff_ne.mpr (by omega)
        generalize D.tup (is.map D.int) = z at a1 hln ⊢
        simp [g_is_show, a1, hln, h3]
  | _ =>
    refine fin _ ?_
    simp [g_is_show, e_are_between_no, shB]
theorem shB_iff {d : D} : shB d = true ↔ ∃ a b, d = .tup [.int a, .int b] ∧ 0 ≤ a ∧ a < b ∧ b ≤ 400 := by
  constructor
  · intro h
    cases d with
    | tup ds =>
      have h : (ds.all (btw 0 400) && pr2 ds) = true := h
      rw [Bool.and_eq_true] at h
      obtain ⟨is, rfl, hi⟩ := btw_ints 0 400 ds h.1
      by_cases h2 : is.length = 2
      · obtain ⟨a, b, rfl⟩ : ∃ a b, is = [a, b] := by
          match is, h2 with
          | [a, b], _ => exact ⟨a, b, rfl⟩
        have h3 : decide (a < b) = true := h.2
        exact ⟨a, b, rfl, (hi a (by simp)).1, of_decide_eq_true h3, (hi b (by simp)).2⟩
      · rw [pr2_ne is h2] at h
        exact absurd h.2 Bool.false_ne_true
    | _ => exact absurd h Bool.false_ne_true
  · rintro ⟨a, b, rfl, h1, h2, h3⟩
    show (([D.int a, D.int b] : List D).all (btw 0 400) && decide (a < b)) = true
    have := ints_btw (lo := 0) (hi := 400) (is := [a, b]) (fun i hi => by
      rcases List.mem_cons.mp hi with e | e
      · subst e; omega
      · rw [List.mem_singleton.mp e]; omega)
    rw [show ([D.int a, D.int b] : List D) = [a, b].map D.int from rfl, this, decide_eq_true h2]
    rfl
def planB (L : List Ln) : D → Bool
  | .tup ds => (ds.length == L.length) && ds.all shB
  | _ => false
theorem e_is_plan_of (hL : L.length ≤ 1000) (v : D) (hz : ∀ ds, v = .tup ds → ds.length ≤ 1000 ∧ ∀ d ∈ ds, ∀ es, d = .tup es → es.length ≤ 1000) : F_is_plan_of [.va (dL L), .va v] = .ok (.bl (planB L v), [.va (dL L), .va v]) := by
  suffices h : g_is_plan_of ([.va (dL L), .va v] ++ List.replicate 1 .un) = .rt (.bl (planB L v)) [.va (dL L), .va v, .un] from call_of rfl h rfl
  show g_is_plan_of [.va (dL L), .va v, .un] = .rt (.bl (planB L v)) [.va (dL L), .va v, .un]
  have hlL : dLen [dL L] = some (.int L.length) := by unfold dL; rw [r_lenT, List.length_map]
  cases v with
  | tup ds =>
    obtain ⟨z1, z2⟩ := hz ds rfl
    have c : c_is_plan_of_1 [.va (dL L), .va (.tup ds), .un] = .ok (ds.map (fun d => .bl (shB d)), [.va (dL L), .va (.tup ds), .un]) := by
      unfold c_is_plan_of_1
      have := oLc_map (vs := [2]) (it := (iSeq (eSlot 1))) (tg := (gN 2)) (te := (eCall F_is_show (aCons (eSlot 2) aNil))) (ρ := [.va (dL L), .va (.tup ds), .un]) (ρ1 := [.va (dL L), .va (.tup ds), .un]) ds id (fun d => .bl (shB d)) (by simp) rfl (fun d hd => ⟨[(2, d)], rfl, by simp, eCall_eq (Fn := F_is_show) (ds := [d]) rfl (e_is_show d (z2 d hd))⟩) (szn (by omega))
      exact this
    have a1 := r_allA ds shB
    have e : planB L (.tup ds) = ((ds.length == L.length) && ds.all shB) := rfl
    rw [e]
    generalize ds.map (fun d => D.bl (shB d)) = y at c a1
    generalize dL L = zl at c hlL ⊢
    by_cases hq : ds.length = L.length
    · have h1 : ((ds.length : Int) == (L.length : Int)) = true := by rw [hq]; exact beq_self_eq_true _
      have h2 : (ds.length == L.length) = true := beq_iff_eq.mpr hq
      simp [g_is_plan_of, hlL, h1, h2, c, a1]
    · have h1 : ((ds.length : Int) == (L.length : Int)) = false := beq_eq_false_iff_ne.mpr (by omega)
      have h2 : (ds.length == L.length) = false := beq_eq_false_iff_ne.mpr hq
      simp [g_is_plan_of, hlL, h1, h2]
  | _ => simp [g_is_plan_of, planB]
theorem planB_iff {v : D} : planB L v = true ↔ ∃ P : List (Int × Int), v = .tup (P.map dSh) ∧ P.length = L.length ∧ ∀ s ∈ P, 0 ≤ s.1 ∧ s.1 < s.2 ∧ s.2 ≤ 400 := by
  have key : ∀ ds : List D, ds.all shB = true → ∃ P : List (Int × Int), ds = P.map dSh ∧ ∀ s ∈ P, 0 ≤ s.1 ∧ s.1 < s.2 ∧ s.2 ≤ 400 := fun ds => by
    induction ds with
    | nil => intro _; exact ⟨[], rfl, fun s h => nomatch h⟩
    | cons d ds ih =>
      intro h
      rw [List.all_cons, Bool.and_eq_true] at h
      obtain ⟨P, h1, h2⟩ := ih h.2
      obtain ⟨a, b, rfl, hab⟩ := shB_iff.mp h.1
      refine ⟨(a, b) :: P, by rw [h1]; rfl, fun s hs => ?_⟩
      rcases List.mem_cons.mp hs with e | e
      · rw [e]; exact hab
      · exact h2 s e
  constructor
  · intro h
    cases v with
    | tup ds =>
      have h : ((ds.length == L.length) && ds.all shB) = true := h
      rw [Bool.and_eq_true] at h
      obtain ⟨P, h1, h2⟩ := key ds h.2
      refine ⟨P, by rw [h1], ?_, h2⟩
      have := eq_of_beq h.1
      rw [h1, List.length_map] at this
      exact this
    | _ => exact absurd h Bool.false_ne_true
  · rintro ⟨P, rfl, h1, h2⟩
    show (((P.map dSh).length == L.length) && (P.map dSh).all shB) = true
    rw [Bool.and_eq_true, List.length_map, beq_iff_eq]
    refine ⟨h1, ?_⟩
    rw [List.all_eq_true]
    intro d hd
    obtain ⟨s, hs, rfl⟩ := List.mem_map.mp hd
    obtain ⟨x1, x2, x3⟩ := h2 s hs
    exact shB_iff.mpr ⟨s.1, s.2, rfl, x1, x2, x3⟩
end My
namespace My
open PySem PySem.Spec PyProof.Rows L2 RT
variable {n : Int} {cs : List Int} {l : Ln} {r : Ru} {t : Int} {L : List Ln}
theorem plan_shape {P : List (Int × Int)} (h : P.length ≤ 1000) : ∀ ds, D.tup (P.map dSh) = .tup ds → ds.length ≤ 1000 ∧ ∀ d ∈ ds, ∀ es, d = .tup es → es.length ≤ 1000 := fun ds e => by
  injection e with e
  subst e
  refine ⟨by rw [List.length_map]; exact h, fun d hd es e => ?_⟩
  obtain ⟨s, _, rfl⟩ := List.mem_map.mp hd
  injection e with e
  subst e
  simp
theorem e_check_plan (hf : OkF n cs) (hr : OkR r) (hL : OkL n L) {P : List (Int × Int)} (hP : planB L (.tup (P.map dSh)) = true) (hl : P.length = L.length) : F_check_plan [.va (film n cs), .va (dL L), .va (dRu r), .va (.tup (P.map dSh))] = .ok (.non, [.va (film n cs), .va (dL L), .va (dRu r), .va (.tup (P.map dSh))]) := by
  have hln := hL.len
  have c1 := eCall_eq (Fn := F_check_rules) (a := (aCons (eSlot 0) (aCons (eSlot 1) (aCons (eSlot 2) aNil)))) (ρ := [.va (film n cs), .va (dL L), .va (dRu r), .va (.tup (P.map dSh))]) (ρ1 := [.va (film n cs), .va (dL L), .va (dRu r), .va (.tup (P.map dSh))]) (ds := [film n cs, dL L, dRu r]) rfl (e_check_rules hf hL hr)
  have g1 : t_check_plan_1 [.va (film n cs), .va (dL L), .va (dRu r), .va (.tup (P.map dSh))] = .nx [.va (film n cs), .va (dL L), .va (dRu r), .va (.tup (P.map dSh))] := by
    unfold t_check_plan_1
    rw [r_sDo, c1]
    rfl
  have hpo := e_is_plan_of (L := L) (by omega) (.tup (P.map dSh)) (plan_shape (by omega))
  rw [hP] at hpo
  have c2 := eCall_eq (Fn := F_is_plan_of) (a := (aCons (eSlot 1) (aCons (eSlot 3) aNil))) (ρ := [.va (film n cs), .va (dL L), .va (dRu r), .va (.tup (P.map dSh))]) (ρ1 := [.va (film n cs), .va (dL L), .va (dRu r), .va (.tup (P.map dSh))]) (ds := [dL L, .tup (P.map dSh)]) rfl hpo
  have g2 : t_check_plan_2 [.va (film n cs), .va (dL L), .va (dRu r), .va (.tup (P.map dSh))] = .nx [.va (film n cs), .va (dL L), .va (dRu r), .va (.tup (P.map dSh))] := by
    unfold t_check_plan_2
    generalize (eCall F_is_plan_of (aCons (eSlot 1) (aCons (eSlot 3) aNil))) = ce at c2 ⊢
    generalize film n cs = zf at c2 ⊢
    generalize dL L = zl at c2 ⊢
    generalize dRu r = zr at c2 ⊢
    generalize D.tup (P.map dSh) = zp at c2 ⊢
    simp [c2]
  have h5 : g_check_plan ([.va (film n cs), .va (dL L), .va (dRu r), .va (.tup (P.map dSh))] ++ List.replicate 0 .un) = _ := (seq_nx g1).trans g2
  exact call_nx rfl h5 rfl
theorem e_plan_wrong (hf : OkF n cs) (hr : OkR r) (hL : OkL n L) {P : List (Int × Int)} (hv : ∀ s ∈ P, 0 ≤ s.1 ∧ s.1 < s.2 ∧ s.2 ≤ 400) (hl : P.length = L.length) : F_plan_wrong [.va (film n cs), .va (dL L), .va (dRu r), .va (.tup (P.map dSh))] = .ok (dWr (wrongP n cs r none 0 L P), [.va (film n cs), .va (dL L), .va (dRu r), .va (.tup (P.map dSh))]) := by
  have hP : planB L (.tup (P.map dSh)) = true := planB_iff.mpr ⟨P, rfl, hl, hv⟩
  have c1 := eCall_eq (Fn := F_check_plan) (a := (aCons (eSlot 0) (aCons (eSlot 1) (aCons (eSlot 2) (aCons (eSlot 3) aNil))))) (ρ := [.va (film n cs), .va (dL L), .va (dRu r), .va (.tup (P.map dSh))]) (ρ1 := [.va (film n cs), .va (dL L), .va (dRu r), .va (.tup (P.map dSh))]) (ds := [film n cs, dL L, dRu r, .tup (P.map dSh)]) rfl (e_check_plan hf hr hL hP hl)
  have c2 := eCall_eq (Fn := F_wrong_of) (a := (aCons (eSlot 0) (aCons (eSlot 1) (aCons (eSlot 2) (aCons (eSlot 3) aNil))))) (ρ := [.va (film n cs), .va (dL L), .va (dRu r), .va (.tup (P.map dSh))]) (ρ1 := [.va (film n cs), .va (dL L), .va (dRu r), .va (.tup (P.map dSh))]) (ds := [film n cs, dL L, dRu r, .tup (P.map dSh)]) rfl (e_wrong_of (r := r) (fun s hs => (hv s hs).1) hf.len hl)
  have g1 : t_plan_wrong_1 [.va (film n cs), .va (dL L), .va (dRu r), .va (.tup (P.map dSh))] = .nx [.va (film n cs), .va (dL L), .va (dRu r), .va (.tup (P.map dSh))] := by
    unfold t_plan_wrong_1
    rw [r_sDo, c1]
    rfl
  have g2 : t_plan_wrong_2 [.va (film n cs), .va (dL L), .va (dRu r), .va (.tup (P.map dSh))] = .rt (dWr (wrongP n cs r none 0 L P)) [.va (film n cs), .va (dL L), .va (dRu r), .va (.tup (P.map dSh))] := by
    unfold t_plan_wrong_2
    rw [r_sRet, c2]
    rfl
  have h5 : g_plan_wrong ([.va (film n cs), .va (dL L), .va (dRu r), .va (.tup (P.map dSh))] ++ List.replicate 0 .un) = _ := (seq_nx g1).trans g2
  exact call_of rfl h5 rfl
theorem is_dWr (o : Option (Nat × Bool)) : dIs (dWr o) .non = some (.bl o.isNone) := by
  match o with
  | none => rfl
  | some (p, true) => rfl
  | some (p, false) => rfl
theorem e_is_right (hf : OkF n cs) (hr : OkR r) (hL : OkL n L) {P : List (Int × Int)} (hv : ∀ s ∈ P, 0 ≤ s.1 ∧ s.1 < s.2 ∧ s.2 ≤ 400) (hl : P.length = L.length) : F_is_right [.va (film n cs), .va (dL L), .va (dRu r), .va (.tup (P.map dSh))] = .ok (.bl (wrongP n cs r none 0 L P).isNone, [.va (film n cs), .va (dL L), .va (dRu r), .va (.tup (P.map dSh))]) := by
  have hP : planB L (.tup (P.map dSh)) = true := planB_iff.mpr ⟨P, rfl, hl, hv⟩
  have c1 := eCall_eq (Fn := F_check_plan) (a := (aCons (eSlot 0) (aCons (eSlot 1) (aCons (eSlot 2) (aCons (eSlot 3) aNil))))) (ρ := [.va (film n cs), .va (dL L), .va (dRu r), .va (.tup (P.map dSh))]) (ρ1 := [.va (film n cs), .va (dL L), .va (dRu r), .va (.tup (P.map dSh))]) (ds := [film n cs, dL L, dRu r, .tup (P.map dSh)]) rfl (e_check_plan hf hr hL hP hl)
  have c2 := eCall_eq (Fn := F_wrong_of) (a := (aCons (eSlot 0) (aCons (eSlot 1) (aCons (eSlot 2) (aCons (eSlot 3) aNil))))) (ρ := [.va (film n cs), .va (dL L), .va (dRu r), .va (.tup (P.map dSh))]) (ρ1 := [.va (film n cs), .va (dL L), .va (dRu r), .va (.tup (P.map dSh))]) (ds := [film n cs, dL L, dRu r, .tup (P.map dSh)]) rfl (e_wrong_of (r := r) (fun s hs => (hv s hs).1) hf.len hl)
  have g1 : t_is_right_1 [.va (film n cs), .va (dL L), .va (dRu r), .va (.tup (P.map dSh))] = .nx [.va (film n cs), .va (dL L), .va (dRu r), .va (.tup (P.map dSh))] := by
    unfold t_is_right_1
    rw [r_sDo, c1]
    rfl
  have hi := is_dWr (wrongP n cs r none 0 L P)
  have g2 : t_is_right_2 [.va (film n cs), .va (dL L), .va (dRu r), .va (.tup (P.map dSh))] = .rt (.bl (wrongP n cs r none 0 L P).isNone) [.va (film n cs), .va (dL L), .va (dRu r), .va (.tup (P.map dSh))] := by
    unfold t_is_right_2
    rw [r_sRet, r_eOp, c2, Rs.ok_bind, r_eC, Rs.ok_bind, hi]
    rfl
  have h5 : g_is_right ([.va (film n cs), .va (dL L), .va (dRu r), .va (.tup (P.map dSh))] ++ List.replicate 0 .un) = _ := (seq_nx g1).trans g2
  exact call_of rfl h5 rfl
def shownB (n : Int) (cs : List Int) (r : Ru) : Int → List Ln → List Int → Bool
  | t, l :: L, b :: bs => (match firstS n cs l r t with
      | none => true
      | some s => !decide (b > s.2)) && shownB n cs r (b + r.g) L bs
  | _, _, _ => true
theorem shown_loop (hf : OkF n cs) (hr : OkR r) : ∀ (M : List Ln) (bs : List Int) (t : Int) (a1 a3 a4 j6 j7 j8 : B), (∀ l ∈ M, 0 ≤ l.1 ∧ l.1 < l.2.1 ∧ l.2.1 ≤ n ∧ 1 ≤ l.2.2 ∧ l.2.2 ≤ 400) → (∀ b ∈ bs, 0 ≤ b ∧ b ≤ 400) → -1000 ≤ t → t ≤ 1000 →
    ∃ ρ', forGo (gT (gsCons (gN 6) (gsCons (gN 7) gsNil))) b_are_shown_1 ((M.zip bs).map fun p => .tup [dLn p.1, .int p.2]) [.va (film n cs), a1, .va (dRu r), a3, a4, .va (.int t), j6, j7, j8] =
      if shownB n cs r t M bs = true then .nx ([.va (film n cs), a1, .va (dRu r), a3, a4] ++ ρ') else .rt (.bl false) ([.va (film n cs), a1, .va (dRu r), a3, a4] ++ ρ')
  | [], bs, t, a1, a3, a4, j6, j7, j8, _, _, _, _ => ⟨_, by
    have : shownB n cs r t [] bs = true := by unfold shownB; rfl
    rw [this]
    simp [forGo]
    rfl⟩
  | l :: M, [], t, a1, a3, a4, j6, j7, j8, _, _, _, _ => ⟨_, by
    have : shownB n cs r t (l :: M) [] = true := by unfold shownB; rfl
    rw [this]
    simp [forGo]
    rfl⟩
  | l :: M, b :: bs, t, a1, a3, a4, j6, j7, j8, hM, hb, h1, h2 => by
    have hbb := hb b List.mem_cons_self
    have hg := hr.g
    have hok : OkS n cs l r t := ⟨hf, hM l List.mem_cons_self, hr, by omega, by omega⟩
    have c1 := eCall_eq (Fn := F_first_from) (a := (aCons (eSlot 0) (aCons (eSlot 6) (aCons (eSlot 2) (aCons (eSlot 5) aNil))))) (ρ := [.va (film n cs), a1, .va (dRu r), a3, a4, .va (.int t), .va (dLn l), .va (.int b), j8]) (ρ1 := [.va (film n cs), a1, .va (dRu r), a3, a4, .va (.int t), .va (dLn l), .va (.int b), j8]) (ds := [film n cs, dLn l, dRu r, .int t]) rfl (e_first_from hok)
    have f1 : sSet 8 (eCall F_first_from (aCons (eSlot 0) (aCons (eSlot 6) (aCons (eSlot 2) (aCons (eSlot 5) aNil))))) [.va (film n cs), a1, .va (dRu r), a3, a4, .va (.int t), .va (dLn l), .va (.int b), j8] = .nx [.va (film n cs), a1, .va (dRu r), a3, a4, .va (.int t), .va (dLn l), .va (.int b), .va (oSh (firstS n cs l r t))] := by
      rw [r_sSet, c1]
      rfl
    have hgx : dIx (dRu r) (.int 3) = some (.int r.g) := rfl
    obtain ⟨ρ2, ih⟩ := shown_loop hf hr M bs (b + r.g) a1 a3 a4 (.va (dLn l)) (.va (.int b)) (.va (oSh (firstS n cs l r t))) (fun x hx => hM x (List.mem_cons_of_mem _ hx)) (fun x hx => hb x (List.mem_cons_of_mem _ hx)) (by omega) (by omega)
    rw [List.zip_cons_cons, List.map_cons]
    unfold forGo
    simp only [r_gT, r_gsCons, r_gN, r_gsNil, Option.bind_some, List.append_nil, List.cons_append, List.nil_append, r_putB1, r_putB0, List.set_cons_succ, List.set_cons_zero]
    have ok : (match firstS n cs l r t with
        | none => true
        | some s => !decide (b > s.2)) = true → b_are_shown_1 [.va (film n cs), a1, .va (dRu r), a3, a4, .va (.int t), .va (dLn l), .va (.int b), j8] = .nx [.va (film n cs), a1, .va (dRu r), a3, a4, .va (.int (b + r.g)), .va (dLn l), .va (.int b), .va (oSh (firstS n cs l r t))] := by
      intro hk
      unfold b_are_shown_1
      refine (seq_nx f1).trans ?_
      cases hs : firstS n cs l r t with
      | none =>
        have e : dIsNot (oSh none) .non = some (.bl false) := rfl
        generalize dRu r = zr at hgx ⊢
        generalize dLn l = zl
        generalize film n cs = zf
        generalize oSh none = zo at e ⊢
        simp [e, hgx]
      | some s =>
        rw [hs] at hk
        have hk : ¬ s.2 < b := by simpa using hk
        have e : dIsNot (oSh (some s)) .non = some (.bl true) := rfl
        have e1 : dIx (oSh (some s)) (.int 1) = some (.int s.2) := rfl
        generalize dRu r = zr at hgx ⊢
        generalize dLn l = zl
        generalize film n cs = zf
        generalize oSh (some s) = zo at e e1 ⊢
        simp [e, e1, hk, hgx]
    have bad : (match firstS n cs l r t with
        | none => true
        | some s => !decide (b > s.2)) = false → b_are_shown_1 [.va (film n cs), a1, .va (dRu r), a3, a4, .va (.int t), .va (dLn l), .va (.int b), j8] = .rt (.bl false) [.va (film n cs), a1, .va (dRu r), a3, a4, .va (.int t), .va (dLn l), .va (.int b), .va (oSh (firstS n cs l r t))] := by
      intro hk
      unfold b_are_shown_1
      refine (seq_nx f1).trans ?_
      cases hs : firstS n cs l r t with
      | none => rw [hs] at hk; cases hk
      | some s =>
        rw [hs] at hk
        have hk : s.2 < b := by simpa using hk
        have e : dIsNot (oSh (some s)) .non = some (.bl true) := rfl
        have e1 : dIx (oSh (some s)) (.int 1) = some (.int s.2) := rfl
        generalize dRu r = zr
        generalize dLn l = zl
        generalize film n cs = zf
        generalize oSh (some s) = zo at e e1 ⊢
        simp [e, e1, hk]
    have es : shownB n cs r t (l :: M) (b :: bs) = ((match firstS n cs l r t with
        | none => true
        | some s => !decide (b > s.2)) && shownB n cs r (b + r.g) M bs) := by rw [shownB]
    rw [es]
    cases hk : (match firstS n cs l r t with
        | none => true
        | some s => !decide (b > s.2)) with
    | true =>
      rw [ok hk, Bool.true_and]
      exact ⟨ρ2, ih⟩
    | false =>
      rw [bad hk, Bool.false_and]
      refine ⟨[.va (.int t), .va (dLn l), .va (.int b), .va (oSh (firstS n cs l r t))], ?_⟩
      simp only [Bool.false_eq_true, if_false]
theorem e_are_shown (hf : OkF n cs) (hr : OkR r) (hL : OkL n L) (f : Nat) (bs : List Int) (hb : ∀ b ∈ bs, 0 ≤ b ∧ b ≤ 400) (hbl : bs.length ≤ 1000) : F_are_shown [.va (film n cs), .va (dL L), .va (dRu r), .va (.int f), .va (.tup (bs.map D.int))] = .ok (.bl (shownB n cs r 0 (L.drop f) bs), [.va (film n cs), .va (dL L), .va (dRu r), .va (.int f), .va (.tup (bs.map D.int))]) := by
  have g1 : t_are_shown_1 [.va (film n cs), .va (dL L), .va (dRu r), .va (.int f), .va (.tup (bs.map D.int)), .un, .un, .un, .un] = .nx [.va (film n cs), .va (dL L), .va (dRu r), .va (.int f), .va (.tup (bs.map D.int)), .va (.int 0), .un, .un, .un] := rfl
  obtain ⟨ρ', h⟩ := shown_loop (n := n) (cs := cs) (r := r) hf hr (L.drop f) bs 0 (.va (dL L)) (.va (.int f)) (.va (.tup (bs.map D.int))) .un .un .un (fun l hl => hL.each l (List.mem_of_mem_drop hl)) hb (by decide) (by decide)
  have g2 : t_are_shown_2 [.va (film n cs), .va (dL L), .va (dRu r), .va (.int f), .va (.tup (bs.map D.int)), .va (.int 0), .un, .un, .un] = forGo (gT (gsCons (gN 6) (gsCons (gN 7) gsNil))) b_are_shown_1 (((L.drop f).zip bs).map fun p => .tup [dLn p.1, .int p.2]) [.va (film n cs), .va (dL L), .va (dRu r), .va (.int f), .va (.tup (bs.map D.int)), .va (.int 0), .un, .un, .un] := by
    have ct := cut_drop (L.map dLn) (v := (f : Int)) (by omega)
    rw [Int.toNat_natCast, ← List.map_drop] at ct
    unfold t_are_shown_2
    rw [r_sFor]
    have e : (iZip' (eSl (eSlot 1) (oAt (eSlot 3)) oNo) (eSlot 4)) [.va (film n cs), .va (dL L), .va (dRu r), .va (.int f), .va (.tup (bs.map D.int)), .va (.int 0), .un, .un, .un] = .ok (((L.drop f).zip bs).map fun p => .tup [dLn p.1, .int p.2], [.va (film n cs), .va (dL L), .va (dRu r), .va (.int f), .va (.tup (bs.map D.int)), .va (.int 0), .un, .un, .un]) := by
      simp only [r_iZip, r_eSlot, r_eSl, r_oAt, r_oNo, List.getElem?_cons_zero, List.getElem?_cons_succ, Rs.ok_bind, dL, r_slT, ct, ofO_some, r_seqT, zipD_map]
    rw [e, r_sRs_ok]
  cases hk : shownB n cs r 0 (L.drop f) bs with
  | true =>
    rw [hk, if_pos rfl] at h
    have h5 : g_are_shown ([.va (film n cs), .va (dL L), .va (dRu r), .va (.int f), .va (.tup (bs.map D.int))] ++ List.replicate 4 .un) = .rt (.bl true) ([.va (film n cs), .va (dL L), .va (dRu r), .va (.int f), .va (.tup (bs.map D.int))] ++ ρ') := (seq_nx g1).trans ((seq_nx (g2.trans h)).trans rfl)
    exact call_of rfl h5 rfl
  | false =>
    rw [hk, if_neg Bool.false_ne_true] at h
    have h5 : g_are_shown ([.va (film n cs), .va (dL L), .va (dRu r), .va (.int f), .va (.tup (bs.map D.int))] ++ List.replicate 4 .un) = .rt (.bl false) ([.va (film n cs), .va (dL L), .va (dRu r), .va (.int f), .va (.tup (bs.map D.int))] ++ ρ') := (seq_nx g1).trans (rt_seq (g2.trans h))
    exact call_of rfl h5 rfl
end My
namespace My
open PySem PySem.Spec PyProof.Rows L2 RT
variable {n : Int} {cs : List Int} {l : Ln} {r : Ru} {t : Int} {L : List Ln}
def tickOf (bs : List Int) (g : Int) : Int := match bs.getLast? with
  | none => 0
  | some b => b + g
def IsFull (n : Int) (cs : List Int) (r : Ru) (L : List Ln) (a b c : D) : Prop :=
  ∃ (f la : Nat) (bs : List Int) (l : Ln), a = .int f ∧ b = .int la ∧ c = .tup (bs.map D.int) ∧ f ≤ la ∧ L[la]? = some l ∧ bs.length = la - f ∧ (∀ x ∈ bs, 0 ≤ x ∧ x ≤ 400) ∧ shownB n cs r 0 (L.drop f) bs = true ∧ firstS n cs l r (tickOf bs r.g) = none
theorem ix_lastI {bs : List Int} {b : Int} (h : bs.getLast? = some b) : dIx (.tup (bs.map D.int)) (.int (-1)) = some (.int b) := by
  obtain ⟨a, rfl⟩ : ∃ a, bs = a ++ [b] := by
    have hne : bs ≠ [] := fun e => by rw [e] at h; cases h
    refine ⟨bs.dropLast, ?_⟩
    rw [List.getLast?_eq_some_getLast hne] at h
    rw [← Option.some.inj h]
    exact (List.dropLast_concat_getLast hne).symm
  rw [r_ixT]
  have : ixN ((a ++ [b]).map D.int).length (-1) = some a.length := by
    rw [List.length_map, List.length_append]
    unfold ixN
    rw [if_neg (by omega), if_pos (by simp; omega)]
    congr 1
    simp
    omega
  rw [this]
  simp
theorem ne_tupnil (ns : List Int) : dNe (.tup (ns.map D.int)) (.tup []) = some (.bl (!ns.isEmpty)) := by
  have sh : SeqAt.shaped (dP (.tup (ns.map D.int))) = true := by
    simp [SeqAt.shaped, dP, PyData.canLay0, PyData.depth, lay_ints]
  show (eqD _ _).map _ = _
  unfold eqD
  rw [if_pos ⟨sh, by decide⟩]
  cases ns with
  | nil => rfl
  | cons n ns => rfl
theorem btw_iff {lo hi : Int} {d : D} : btw lo hi d = true ↔ ∃ i, d = .int i ∧ lo ≤ i ∧ i ≤ hi := by
  constructor
  · intro h
    cases d with
    | int i =>
      have hb : (decide (lo ≤ i) && decide (i ≤ hi)) = true := h
      rw [Bool.and_eq_true, decide_eq_true_eq, decide_eq_true_eq] at hb
      exact ⟨i, rfl, hb⟩
    | _ => exact absurd h Bool.false_ne_true
  · rintro ⟨i, rfl, h1, h2⟩
    simp [btw, h1, h2]
theorem e_is_full (hf : OkF n cs) (hr : OkR r) (hL : OkL n L) (a b c : D) (hz : ∀ ds, c = .tup ds → ds.length ≤ 1000) : ∃ k : Bool, (k = true ↔ IsFull n cs r L a b c) ∧ F_is_full [.va (film n cs), .va (dL L), .va (dRu r), .va (.tup [a, b, c])] = .ok (.bl k, [.va (film n cs), .va (dL L), .va (dRu r), .va (.tup [a, b, c])]) := by
  have hlL : dLen [dL L] = some (.int L.length) := by unfold dL; rw [r_lenT, List.length_map]
  have hll := hL.len
  have g1 : t_is_full_1 [.va (film n cs), .va (dL L), .va (dRu r), .va (.tup [a, b, c]), .un, .un, .un, .un] = .nx [.va (film n cs), .va (dL L), .va (dRu r), .va (.tup [a, b, c]), .va a, .va b, .va c, .un] := rfl
  have dead : ∀ G : List B → Fl, G = sSeq t_is_full_2 (sSeq t_is_full_3 (sSeq t_is_full_4 (sSeq t_is_full_5 t_is_full_6))) → ∀ ρ' : List B, (∃ x, ρ' = [.va (film n cs), .va (dL L), .va (dRu r), .va (.tup [a, b, c]), .va a, .va b, .va c, x]) → ∀ k, G [.va (film n cs), .va (dL L), .va (dRu r), .va (.tup [a, b, c]), .va a, .va b, .va c, .un] = .rt (.bl k) ρ' → F_is_full [.va (film n cs), .va (dL L), .va (dRu r), .va (.tup [a, b, c])] = .ok (.bl k, [.va (film n cs), .va (dL L), .va (dRu r), .va (.tup [a, b, c])]) := by
    rintro G rfl ρ' ⟨x, rfl⟩ k h
    have h5 : g_is_full ([.va (film n cs), .va (dL L), .va (dRu r), .va (.tup [a, b, c])] ++ List.replicate 4 .un) = _ := (seq_nx g1).trans h
    exact call_of rfl h5 rfl
  have c1 : eCall F_is_between (aCons (eSlot 5) (aCons (eC (.int 0)) (aCons (eOp dSub (eBlt dLen (aCons (eSlot 1) aNil)) (eC (.int 1))) aNil))) [.va (film n cs), .va (dL L), .va (dRu r), .va (.tup [a, b, c]), .va a, .va b, .va c, .un] = .ok (.bl (btw 0 ((L.length : Int) - 1) b), [.va (film n cs), .va (dL L), .va (dRu r), .va (.tup [a, b, c]), .va a, .va b, .va c, .un]) := by
    refine eCall_eq (ds := [b, .int 0, .int ((L.length : Int) - 1)]) ?_ (e_is_between b 0 ((L.length : Int) - 1))
    generalize dL L = zl at hlL ⊢
    simp [hlL]
  by_cases hb : ∃ la : Nat, b = .int la ∧ la < L.length
  · obtain ⟨la, rfl, hla⟩ := hb
    have b1 : btw 0 ((L.length : Int) - 1) (.int la) = true := btw_iff.mpr ⟨la, rfl, by omega, by omega⟩
    rw [b1] at c1
    have c2 : eCall F_is_between (aCons (eSlot 4) (aCons (eC (.int 0)) (aCons (eSlot 5) aNil))) [.va (film n cs), .va (dL L), .va (dRu r), .va (.tup [a, .int la, c]), .va a, .va (.int la), .va c, .un] = .ok (.bl (btw 0 la a), [.va (film n cs), .va (dL L), .va (dRu r), .va (.tup [a, .int la, c]), .va a, .va (.int la), .va c, .un]) := eCall_eq (ds := [a, .int 0, .int la]) rfl (e_is_between a 0 la)
    by_cases ha : ∃ f : Nat, a = .int f ∧ f ≤ la
    · obtain ⟨f, rfl, hfl⟩ := ha
      have b2 : btw 0 la (.int f) = true := btw_iff.mpr ⟨f, rfl, by omega, by omega⟩
      rw [b2] at c2
      have g2 : t_is_full_2 [.va (film n cs), .va (dL L), .va (dRu r), .va (.tup [.int f, .int la, c]), .va (.int f), .va (.int la), .va c, .un] = .nx [.va (film n cs), .va (dL L), .va (dRu r), .va (.tup [.int f, .int la, c]), .va (.int f), .va (.int la), .va c, .un] := by
        unfold t_is_full_2
        generalize eCall F_is_between (aCons (eSlot 5) (aCons (eC (.int 0)) (aCons (eOp dSub (eBlt dLen (aCons (eSlot 1) aNil)) (eC (.int 1))) aNil))) = x1 at c1 ⊢
        generalize eCall F_is_between (aCons (eSlot 4) (aCons (eC (.int 0)) (aCons (eSlot 5) aNil))) = x2 at c2 ⊢
        simp [c1, c2]
      by_cases hc : ∃ bs : List Int, c = .tup (bs.map D.int) ∧ bs.length = la - f ∧ ∀ x ∈ bs, 0 ≤ x ∧ x ≤ 400
      · obtain ⟨bs, rfl, hbl, hbs⟩ := hc
        have hbz : bs.length ≤ 1000 := by omega
        have a3 := e_are_between (bs.map D.int) (szn (by rw [List.length_map]; omega)) 0 400
        rw [ints_btw hbs] at a3
        have c3 : eCall F_are_between (aCons (eSlot 6) (aCons (eC (.int 0)) (aCons (eC (.int 400)) aNil))) [.va (film n cs), .va (dL L), .va (dRu r), .va (.tup [.int f, .int la, .tup (bs.map D.int)]), .va (.int f), .va (.int la), .va (.tup (bs.map D.int)), .un] = .ok (.bl true, [.va (film n cs), .va (dL L), .va (dRu r), .va (.tup [.int f, .int la, .tup (bs.map D.int)]), .va (.int f), .va (.int la), .va (.tup (bs.map D.int)), .un]) := eCall_eq (ds := [.tup (bs.map D.int), .int 0, .int 400]) rfl a3
        have hbl2 : dLen [.tup (bs.map D.int)] = some (.int ((la : Int) - f)) := by rw [r_lenT, List.length_map, hbl]; congr 2; omega
        have g3 : t_is_full_3 [.va (film n cs), .va (dL L), .va (dRu r), .va (.tup [.int f, .int la, .tup (bs.map D.int)]), .va (.int f), .va (.int la), .va (.tup (bs.map D.int)), .un] = .nx [.va (film n cs), .va (dL L), .va (dRu r), .va (.tup [.int f, .int la, .tup (bs.map D.int)]), .va (.int f), .va (.int la), .va (.tup (bs.map D.int)), .un] := by
          unfold t_is_full_3
          generalize eCall F_are_between (aCons (eSlot 6) (aCons (eC (.int 0)) (aCons (eC (.int 400)) aNil))) = x1 at c3 ⊢
          generalize D.tup (bs.map D.int) = zb at c3 hbl2 ⊢
          simp [c3, hbl2]
        have a4 := e_are_shown hf hr hL f bs hbs hbz
        have c4 : eCall F_are_shown (aCons (eSlot 0) (aCons (eSlot 1) (aCons (eSlot 2) (aCons (eSlot 4) (aCons (eSlot 6) aNil))))) [.va (film n cs), .va (dL L), .va (dRu r), .va (.tup [.int f, .int la, .tup (bs.map D.int)]), .va (.int f), .va (.int la), .va (.tup (bs.map D.int)), .un] = .ok (.bl (shownB n cs r 0 (L.drop f) bs), [.va (film n cs), .va (dL L), .va (dRu r), .va (.tup [.int f, .int la, .tup (bs.map D.int)]), .va (.int f), .va (.int la), .va (.tup (bs.map D.int)), .un]) := eCall_eq (ds := [film n cs, dL L, dRu r, .int f, .tup (bs.map D.int)]) rfl a4
        have uni : ∀ {f' la' : Nat} {bs' : List Int}, D.int (f : Int) = .int f' → D.int (la : Int) = .int la' → D.tup (bs.map D.int) = .tup (bs'.map D.int) → f' = f ∧ la' = la ∧ bs' = bs := fun e1 e2 e3 => by
          injection e1 with e1
          injection e2 with e2
          injection e3 with e3
          exact ⟨by omega, by omega, (map_int_inj _ _ e3).symm⟩
        cases hsh : shownB n cs r 0 (L.drop f) bs with
        | false =>
          rw [hsh] at c4
          have g4 : t_is_full_4 [.va (film n cs), .va (dL L), .va (dRu r), .va (.tup [.int f, .int la, .tup (bs.map D.int)]), .va (.int f), .va (.int la), .va (.tup (bs.map D.int)), .un] = .rt (.bl false) [.va (film n cs), .va (dL L), .va (dRu r), .va (.tup [.int f, .int la, .tup (bs.map D.int)]), .va (.int f), .va (.int la), .va (.tup (bs.map D.int)), .un] := by
            unfold t_is_full_4
            generalize eCall F_are_shown (aCons (eSlot 0) (aCons (eSlot 1) (aCons (eSlot 2) (aCons (eSlot 4) (aCons (eSlot 6) aNil))))) = x1 at c4 ⊢
            simp [c4]
          refine ⟨false, ⟨fun h => (Bool.false_ne_true h).elim, ?_⟩, dead _ rfl _ ⟨_, rfl⟩ false ((seq_nx g2).trans ((seq_nx g3).trans (rt_seq g4)))⟩
          rintro ⟨f', la', bs', l, e1, e2, e3, _, _, _, _, h, _⟩
          obtain ⟨rfl, rfl, rfl⟩ := uni e1 e2 e3
          rw [hsh] at h
          cases h
        | true =>
          rw [hsh] at c4
          have g4 : t_is_full_4 [.va (film n cs), .va (dL L), .va (dRu r), .va (.tup [.int f, .int la, .tup (bs.map D.int)]), .va (.int f), .va (.int la), .va (.tup (bs.map D.int)), .un] = .nx [.va (film n cs), .va (dL L), .va (dRu r), .va (.tup [.int f, .int la, .tup (bs.map D.int)]), .va (.int f), .va (.int la), .va (.tup (bs.map D.int)), .un] := by
            unfold t_is_full_4
            generalize eCall F_are_shown (aCons (eSlot 0) (aCons (eSlot 1) (aCons (eSlot 2) (aCons (eSlot 4) (aCons (eSlot 6) aNil))))) = x1 at c4 ⊢
            simp [c4]
          have hgx : dIx (dRu r) (.int 3) = some (.int r.g) := rfl
          have hnb := ne_tupnil bs
          have g5 : t_is_full_5 [.va (film n cs), .va (dL L), .va (dRu r), .va (.tup [.int f, .int la, .tup (bs.map D.int)]), .va (.int f), .va (.int la), .va (.tup (bs.map D.int)), .un] = .nx [.va (film n cs), .va (dL L), .va (dRu r), .va (.tup [.int f, .int la, .tup (bs.map D.int)]), .va (.int f), .va (.int la), .va (.tup (bs.map D.int)), .va (.int (tickOf bs r.g))] := by
            unfold t_is_full_5
            cases hlast : bs.getLast? with
            | none =>
              have he : bs = [] := List.getLast?_eq_none_iff.mp hlast
              have e : tickOf bs r.g = 0 := by unfold tickOf; rw [hlast]
              rw [e]
              have hnb : dNe (.tup (bs.map D.int)) (.tup []) = some (.bl false) := by rw [hnb, he]; rfl
              generalize D.tup (bs.map D.int) = zb at hnb ⊢
              simp [hnb]
            | some x =>
              have e : tickOf bs r.g = x + r.g := by unfold tickOf; rw [hlast]
              rw [e]
              have hx := ix_lastI hlast
              have hnb : dNe (.tup (bs.map D.int)) (.tup []) = some (.bl true) := by
                rw [hnb]
                cases bs with
                | nil => cases hlast
                | cons _ _ => rfl
              generalize D.tup (bs.map D.int) = zb at hnb hx ⊢
              generalize dRu r = zr at hgx ⊢
              simp [hnb, hx, hgx]
          have hLa : L[la]? = some L[la] := List.getElem?_eq_getElem hla
          generalize L[la] = l at hLa
          have hxl := ix_L hLa
          have htk : -50000 ≤ tickOf bs r.g ∧ tickOf bs r.g ≤ 50000 := by
            have := hr.g
            unfold tickOf
            cases hlast : bs.getLast? with
            | none => exact ⟨(show (-50000 : Int) ≤ 0 by decide), (show (0 : Int) ≤ 50000 by decide)⟩
            | some x =>
              have := hbs x (List.mem_of_getLast? hlast)
              exact ⟨(show -50000 ≤ x + r.g by omega), (show x + r.g ≤ 50000 by omega)⟩
          have a6 := e_first_from (n := n) (cs := cs) (l := l) (r := r) (t := tickOf bs r.g) ⟨hf, hL.each l (List.mem_of_getElem? hLa), hr, htk.1, htk.2⟩
          have c6 : eCall F_first_from (aCons (eSlot 0) (aCons (eOp dIx (eSlot 1) (eSlot 5)) (aCons (eSlot 2) (aCons (eSlot 7) aNil)))) [.va (film n cs), .va (dL L), .va (dRu r), .va (.tup [.int f, .int la, .tup (bs.map D.int)]), .va (.int f), .va (.int la), .va (.tup (bs.map D.int)), .va (.int (tickOf bs r.g))] = .ok (oSh (firstS n cs l r (tickOf bs r.g)), [.va (film n cs), .va (dL L), .va (dRu r), .va (.tup [.int f, .int la, .tup (bs.map D.int)]), .va (.int f), .va (.int la), .va (.tup (bs.map D.int)), .va (.int (tickOf bs r.g))]) := by
            refine eCall_eq (ds := [film n cs, dLn l, dRu r, .int (tickOf bs r.g)]) ?_ a6
            generalize dL L = zl at hxl ⊢
            simp [hxl]
          have hio : dIs (oSh (firstS n cs l r (tickOf bs r.g))) .non = some (.bl (firstS n cs l r (tickOf bs r.g)).isNone) := by
            cases firstS n cs l r (tickOf bs r.g) <;> rfl
          have g6 : t_is_full_6 [.va (film n cs), .va (dL L), .va (dRu r), .va (.tup [.int f, .int la, .tup (bs.map D.int)]), .va (.int f), .va (.int la), .va (.tup (bs.map D.int)), .va (.int (tickOf bs r.g))] = .rt (.bl (firstS n cs l r (tickOf bs r.g)).isNone) [.va (film n cs), .va (dL L), .va (dRu r), .va (.tup [.int f, .int la, .tup (bs.map D.int)]), .va (.int f), .va (.int la), .va (.tup (bs.map D.int)), .va (.int (tickOf bs r.g))] := by
            unfold t_is_full_6
            rw [r_sRet, r_eOp, c6, Rs.ok_bind, r_eC, Rs.ok_bind, hio]
            rfl
          refine ⟨_, ?_, dead _ rfl _ ⟨_, rfl⟩ _ ((seq_nx g2).trans ((seq_nx g3).trans ((seq_nx g4).trans ((seq_nx g5).trans g6))))⟩
          rw [Option.isNone_iff_eq_none]
          constructor
          · intro h
            exact ⟨f, la, bs, l, rfl, rfl, rfl, hfl, hLa, hbl, hbs, hsh, h⟩
          · rintro ⟨f', la', bs', l', e1, e2, e3, _, hl', _, _, _, h⟩
            obtain ⟨rfl, rfl, rfl⟩ := uni e1 e2 e3
            rw [hLa] at hl'
            cases hl'
            exact h
      · have g3 : t_is_full_3 [.va (film n cs), .va (dL L), .va (dRu r), .va (.tup [.int f, .int la, c]), .va (.int f), .va (.int la), .va c, .un] = .rt (.bl false) [.va (film n cs), .va (dL L), .va (dRu r), .va (.tup [.int f, .int la, c]), .va (.int f), .va (.int la), .va c, .un] := by
          unfold t_is_full_3
          cases c with
          | tup ds =>
            have a3 := e_are_between ds (szn (by have := hz ds rfl; omega)) 0 400
            have c3 : eCall F_are_between (aCons (eSlot 6) (aCons (eC (.int 0)) (aCons (eC (.int 400)) aNil))) [.va (film n cs), .va (dL L), .va (dRu r), .va (.tup [.int f, .int la, .tup ds]), .va (.int f), .va (.int la), .va (.tup ds), .un] = .ok (.bl (ds.all (btw 0 400)), [.va (film n cs), .va (dL L), .va (dRu r), .va (.tup [.int f, .int la, .tup ds]), .va (.int f), .va (.int la), .va (.tup ds), .un]) := eCall_eq (ds := [.tup ds, .int 0, .int 400]) rfl a3
            cases hall : ds.all (btw 0 400) with
            | false =>
              rw [hall] at c3
              generalize eCall F_are_between (aCons (eSlot 6) (aCons (eC (.int 0)) (aCons (eC (.int 400)) aNil))) = x1 at c3 ⊢
              simp [c3]
            | true =>
              rw [hall] at c3
              obtain ⟨bs, rfl, hbs⟩ := btw_ints 0 400 ds hall
              have hne : ¬ bs.length = la - f := fun e => hc ⟨bs, rfl, e, hbs⟩
              have h1 : ((bs.length : Int) == (la : Int) - f) = false := beq_eq_false_iff_ne.mpr (by omega)
              have h2 : dLen [.tup (bs.map D.int)] = some (.int bs.length) := by rw [r_lenT, List.length_map]
              generalize eCall F_are_between (aCons (eSlot 6) (aCons (eC (.int 0)) (aCons (eC (.int 400)) aNil))) = x1 at c3 ⊢
              generalize D.tup (bs.map D.int) = zb at c3 h2 ⊢
              simp [c3, h2, h1]
          | _ => simp [e_are_between_no]
        refine ⟨false, ⟨fun h => (Bool.false_ne_true h).elim, ?_⟩, dead _ rfl _ ⟨_, rfl⟩ false ((seq_nx g2).trans (rt_seq g3))⟩
        rintro ⟨f', la', bs', l, e1, e2, e3, _, _, h1, h2, _, _⟩
        injection e1 with e1
        injection e2 with e2
        exact (hc ⟨bs', e3, by omega, h2⟩).elim
    · have b2 : btw 0 la a = false := by
        cases q : btw 0 la a with
        | false => rfl
        | true =>
          obtain ⟨i, e, h1, h2⟩ := btw_iff.mp q
          exact (ha ⟨i.toNat, by rw [e]; congr 1; omega, by omega⟩).elim
      rw [b2] at c2
      have g2 : t_is_full_2 [.va (film n cs), .va (dL L), .va (dRu r), .va (.tup [a, .int la, c]), .va a, .va (.int la), .va c, .un] = .rt (.bl false) [.va (film n cs), .va (dL L), .va (dRu r), .va (.tup [a, .int la, c]), .va a, .va (.int la), .va c, .un] := by
        unfold t_is_full_2
        generalize eCall F_is_between (aCons (eSlot 5) (aCons (eC (.int 0)) (aCons (eOp dSub (eBlt dLen (aCons (eSlot 1) aNil)) (eC (.int 1))) aNil))) = x1 at c1 ⊢
        generalize eCall F_is_between (aCons (eSlot 4) (aCons (eC (.int 0)) (aCons (eSlot 5) aNil))) = x2 at c2 ⊢
        simp [c1, c2]
      refine ⟨false, ⟨fun h => (Bool.false_ne_true h).elim, ?_⟩, dead _ rfl _ ⟨_, rfl⟩ false (rt_seq g2)⟩
      rintro ⟨f', la', bs', l, e1, e2, e3, h1, _⟩
      injection e2 with e2
      exact (ha ⟨f', e1, by omega⟩).elim
  · have b1 : btw 0 ((L.length : Int) - 1) b = false := by
      cases q : btw 0 ((L.length : Int) - 1) b with
      | false => rfl
      | true =>
        obtain ⟨i, e, h1, h2⟩ := btw_iff.mp q
        exact (hb ⟨i.toNat, by rw [e]; congr 1; omega, by omega⟩).elim
    rw [b1] at c1
    have g2 : t_is_full_2 [.va (film n cs), .va (dL L), .va (dRu r), .va (.tup [a, b, c]), .va a, .va b, .va c, .un] = .rt (.bl false) [.va (film n cs), .va (dL L), .va (dRu r), .va (.tup [a, b, c]), .va a, .va b, .va c, .un] := by
      unfold t_is_full_2
      generalize eCall F_is_between (aCons (eSlot 5) (aCons (eC (.int 0)) (aCons (eOp dSub (eBlt dLen (aCons (eSlot 1) aNil)) (eC (.int 1))) aNil))) = x1 at c1 ⊢
      simp [c1]
    refine ⟨false, ⟨fun h => (Bool.false_ne_true h).elim, ?_⟩, dead _ rfl _ ⟨_, rfl⟩ false (rt_seq g2)⟩
    rintro ⟨f', la', bs', l, e1, e2, e3, _, h1, _⟩
    exact (hb ⟨la', e2, (List.getElem?_eq_some_iff.mp h1).1⟩).elim
end My
namespace My
open PySem PySem.Spec PyProof.Rows L2 RT
variable {n : Int} {cs : List Int} {l : Ln} {r : Ru} {t : Int} {L : List Ln}
structure Sz (b : D) : Prop where
  one : ∀ es, b = .tup es → es.length ≤ 1000 ∧ ∀ d ∈ es, ∀ gs, d = .tup gs → gs.length ≤ 1000
structure HV (v : D) : Prop where
  sh : SeqAt.shaped (dP v) = true
  len : ∀ ds, v = .tup ds → ds.length ≤ 1000 ∧ ∀ b ∈ ds, Sz b
def GoodPlan (n : Int) (cs : List Int) (r : Ru) (L : List Ln) (b : D) : Prop := ∃ P : List (Int × Int), b = .tup (P.map dSh) ∧ P.length = L.length ∧ (∀ s ∈ P, 0 ≤ s.1 ∧ s.1 < s.2 ∧ s.2 ≤ 400) ∧ wrongP n cs r none 0 L P = none
def IsDue (n : Int) (cs : List Int) (r : Ru) (L : List Ln) (v : D) : Prop :=
  (∃ b, v = .tup [.str "plan", b] ∧ GoodPlan n cs r L b) ∨ (∃ a b c, v = .tup [.str "full", a, b, c] ∧ IsFull n cs r L a b c)
theorem dSh_inj : ∀ (P Q : List (Int × Int)), P.map dSh = Q.map dSh → P = Q
  | [], [], _ => rfl
  | [], _ :: _, h => by simp at h
  | _ :: _, [], h => by simp at h
  | p :: P, q :: Q, h => by
    simp only [List.map_cons, List.cons.injEq] at h
    have h1 := h.1
    unfold dSh at h1
    simp only [D.tup.injEq, List.cons.injEq, D.int.injEq, and_true] at h1
    rw [dSh_inj P Q h.2, show p = q from Prod.ext h1.1 h1.2]
theorem notIn24 (k : Int) : dNotIn (.int k) (.tup [.int 2, .int 4]) = some (.bl (!((2 == k) || (4 == k)))) := by
  have h : inD (.int k) [.int 2, .int 4] = some ((2 == k) || (4 == k)) := by
    unfold inD
    rw [if_pos ⟨rfl, rfl⟩]
    congr 1
    simp [eqF]
  show (inD (.int k) [.int 2, .int 4]).map (fun k => D.bl (!k)) = _
  rw [h]
  rfl
theorem plan_call (hf : OkF n cs) (hr : OkR r) (hL : OkL n L) (b : D) (hz : Sz b) {ρ : List B} (h0 : ρ[0]? = some (.va (film n cs))) (h1 : ρ[1]? = some (.va (dL L))) (h2 : ρ[2]? = some (.va (dRu r))) (h3 : ρ[3]? = some (.va (.tup [.str "plan", b]))) :
    ∃ k : Bool, (k = true ↔ GoodPlan n cs r L b) ∧ (eAnd (eCall F_is_plan_of (aCons (eSlot 1) (aCons (eOp dIx (eSlot 3) (eC (.int 1))) aNil))) (eOp dIs (eCall F_wrong_of (aCons (eSlot 0) (aCons (eSlot 1) (aCons (eSlot 2) (aCons (eOp dIx (eSlot 3) (eC (.int 1))) aNil))))) (eC .non))) ρ = .ok (.bl k, ρ) := by
  have hll := hL.len
  have c1 : eCall F_is_plan_of (aCons (eSlot 1) (aCons (eOp dIx (eSlot 3) (eC (.int 1))) aNil)) ρ = .ok (.bl (planB L b), ρ) := by
    refine eCall_eq (ds := [dL L, b]) ?_ (e_is_plan_of (by omega) b hz.one)
    simp [h1, h3, L2.ixN]
  cases hp : planB L b with
  | false =>
    rw [hp] at c1
    refine ⟨false, ⟨fun h => (Bool.false_ne_true h).elim, ?_⟩, ?_⟩
    · rintro ⟨P, e, hl, hv, _⟩
      have := planB_iff.mpr ⟨P, e, hl, hv⟩
      rw [hp] at this
      exact this
    · rw [r_eAnd, c1]
      rfl
  | true =>
    rw [hp] at c1
    obtain ⟨P, rfl, hl, hv⟩ := planB_iff.mp hp
    have c2 : eCall F_wrong_of (aCons (eSlot 0) (aCons (eSlot 1) (aCons (eSlot 2) (aCons (eOp dIx (eSlot 3) (eC (.int 1))) aNil)))) ρ = .ok (dWr (wrongP n cs r none 0 L P), ρ) := by
      refine eCall_eq (ds := [film n cs, dL L, dRu r, .tup (P.map dSh)]) ?_ (e_wrong_of (r := r) (fun s hs => (hv s hs).1) hf.len hl)
      simp [h0, h1, h2, h3, L2.ixN]
    have hi := is_dWr (wrongP n cs r none 0 L P)
    refine ⟨(wrongP n cs r none 0 L P).isNone, ?_, ?_⟩
    · rw [Option.isNone_iff_eq_none]
      constructor
      · intro h; exact ⟨P, rfl, hl, hv, h⟩
      · rintro ⟨Q, e, _, _, h⟩
        injection e with e
        rw [dSh_inj P Q e]
        exact h
    · rw [r_eAnd, c1, Rs.ok_bind]
      show (eOp dIs _ _) ρ = _
      rw [r_eOp, c2, Rs.ok_bind, r_eC, Rs.ok_bind, hi]
      rfl
theorem e_shows_can (hf : OkF n cs) (hr : OkR r) (hL : OkL n L) (v : D) (hv : HV v) : ∃ k : Bool, (k = true ↔ IsDue n cs r L v) ∧ F_shows_can [.va (film n cs), .va (dL L), .va (dRu r), .va v] = .ok (.bl k, [.va (film n cs), .va (dL L), .va (dRu r), .va v]) := by
  have c0 := eCall_eq (Fn := F_check_rules) (a := (aCons (eSlot 0) (aCons (eSlot 1) (aCons (eSlot 2) aNil)))) (ρ := [.va (film n cs), .va (dL L), .va (dRu r), .va v]) (ρ1 := [.va (film n cs), .va (dL L), .va (dRu r), .va v]) (ds := [film n cs, dL L, dRu r]) rfl (e_check_rules hf hL hr)
  have g1 : t_shows_can_1 [.va (film n cs), .va (dL L), .va (dRu r), .va v] = .nx [.va (film n cs), .va (dL L), .va (dRu r), .va v] := by
    unfold t_shows_can_1
    rw [r_sDo, c0]
    rfl
  have fin : ∀ {k : Bool}, sSeq t_shows_can_2 (sSeq t_shows_can_3 t_shows_can_4) [.va (film n cs), .va (dL L), .va (dRu r), .va v] = .rt (.bl k) [.va (film n cs), .va (dL L), .va (dRu r), .va v] → F_shows_can [.va (film n cs), .va (dL L), .va (dRu r), .va v] = .ok (.bl k, [.va (film n cs), .va (dL L), .va (dRu r), .va v]) := fun {k} h => by
    have h5 : g_shows_can ([.va (film n cs), .va (dL L), .va (dRu r), .va v] ++ List.replicate 0 .un) = _ := (seq_nx g1).trans h
    exact call_of rfl h5 rfl
  by_cases hp : ∃ s b, v = .tup [.str s, b]
  · obtain ⟨s, b, rfl⟩ := hp
    have hz : Sz b := (hv.len _ rfl).2 b (by simp)
    have g2 : t_shows_can_2 [.va (film n cs), .va (dL L), .va (dRu r), .va (.tup [.str s, b])] = .nx [.va (film n cs), .va (dL L), .va (dRu r), .va (.tup [.str s, b])] := by
      have e := notIn24 2
      have e : dNotIn (.int 2) (.tup [.int 2, .int 4]) = some (.bl false) := e
      generalize film n cs = zf
      generalize dL L = zl
      generalize dRu r = zr
      simp [t_shows_can_2, e, L2.ixN]
    have g3 : t_shows_can_3 [.va (film n cs), .va (dL L), .va (dRu r), .va (.tup [.str s, b])] = .nx [.va (film n cs), .va (dL L), .va (dRu r), .va (.tup [.str s, b])] := by
      generalize film n cs = zf
      generalize dL L = zl
      generalize dRu r = zr
      simp [t_shows_can_3]
    by_cases hs : s = "plan"
    · subst hs
      obtain ⟨k, hk, hc⟩ := plan_call hf hr hL b hz (ρ := [.va (film n cs), .va (dL L), .va (dRu r), .va (.tup [.str "plan", b])]) rfl rfl rfl rfl
      have g4 : t_shows_can_4 [.va (film n cs), .va (dL L), .va (dRu r), .va (.tup [.str "plan", b])] = .rt (.bl k) [.va (film n cs), .va (dL L), .va (dRu r), .va (.tup [.str "plan", b])] := by
        unfold t_shows_can_4
        generalize (eAnd (eCall F_is_plan_of (aCons (eSlot 1) (aCons (eOp dIx (eSlot 3) (eC (.int 1))) aNil))) (eOp dIs (eCall F_wrong_of (aCons (eSlot 0) (aCons (eSlot 1) (aCons (eSlot 2) (aCons (eOp dIx (eSlot 3) (eC (.int 1))) aNil))))) (eC .non))) = x1 at hc ⊢
        generalize film n cs = zf at hc ⊢
        generalize dL L = zl at hc ⊢
        generalize dRu r = zr at hc ⊢
        simp [hc, L2.ixN]
      refine ⟨k, hk.trans ⟨fun h => .inl ⟨b, rfl, h⟩, ?_⟩, fin ((seq_nx g2).trans ((seq_nx g3).trans g4))⟩
      rintro (⟨b', e, h⟩ | ⟨a', b', c', e, _⟩)
      · simp only [D.tup.injEq, List.cons.injEq, and_true, true_and] at e
        rw [e]; exact h
      · simp at e
    · have g4 : t_shows_can_4 [.va (film n cs), .va (dL L), .va (dRu r), .va (.tup [.str s, b])] = .rt (.bl false) [.va (film n cs), .va (dL L), .va (dRu r), .va (.tup [.str s, b])] := by
        have e : (s == "plan") = false := beq_eq_false_iff_ne.mpr hs
        unfold t_shows_can_4
        generalize film n cs = zf
        generalize dL L = zl
        generalize dRu r = zr
        simp [e, L2.ixN]
      refine ⟨false, ⟨fun h => (Bool.false_ne_true h).elim, ?_⟩, fin ((seq_nx g2).trans ((seq_nx g3).trans g4))⟩
      rintro (⟨b', e, h⟩ | ⟨a', b', c', e, _⟩)
      · simp only [D.tup.injEq, List.cons.injEq, D.str.injEq] at e
        exact (hs e.1).elim
      · simp at e
  · by_cases hq : ∃ s a b c, v = .tup [.str s, a, b, c]
    · obtain ⟨s, a, b, c, rfl⟩ := hq
      have hz : Sz c := (hv.len _ rfl).2 c (by simp)
      have g2 : t_shows_can_2 [.va (film n cs), .va (dL L), .va (dRu r), .va (.tup [.str s, a, b, c])] = .nx [.va (film n cs), .va (dL L), .va (dRu r), .va (.tup [.str s, a, b, c])] := by
        have e := notIn24 4
        have e : dNotIn (.int 4) (.tup [.int 2, .int 4]) = some (.bl false) := e
        generalize film n cs = zf
        generalize dL L = zl
        generalize dRu r = zr
        simp [t_shows_can_2, e, L2.ixN]
      by_cases hs : s = "full"
      · subst hs
        obtain ⟨k, hk, hc⟩ := e_is_full hf hr hL a b c (fun ds e => (hz.one ds e).1)
        have hcc : eCall F_is_full (aCons (eSlot 0) (aCons (eSlot 1) (aCons (eSlot 2) (aCons (eSl (eSlot 3) (oAt (eC (.int 1))) oNo) aNil)))) [.va (film n cs), .va (dL L), .va (dRu r), .va (.tup [.str "full", a, b, c])] = .ok (.bl k, [.va (film n cs), .va (dL L), .va (dRu r), .va (.tup [.str "full", a, b, c])]) := by
          refine eCall_eq (ds := [film n cs, dL L, dRu r, .tup [a, b, c]]) ?_ hc
          simp
        have g3 : t_shows_can_3 [.va (film n cs), .va (dL L), .va (dRu r), .va (.tup [.str "full", a, b, c])] = .rt (.bl k) [.va (film n cs), .va (dL L), .va (dRu r), .va (.tup [.str "full", a, b, c])] := by
          unfold t_shows_can_3
          generalize eCall F_is_full (aCons (eSlot 0) (aCons (eSlot 1) (aCons (eSlot 2) (aCons (eSl (eSlot 3) (oAt (eC (.int 1))) oNo) aNil)))) = x1 at hcc ⊢
          generalize film n cs = zf at hcc ⊢
          generalize dL L = zl at hcc ⊢
          generalize dRu r = zr at hcc ⊢
          simp [hcc, L2.ixN]
        refine ⟨k, hk.trans ⟨fun h => .inr ⟨a, b, c, rfl, h⟩, ?_⟩, fin ((seq_nx g2).trans (rt_seq g3))⟩
        rintro (⟨b', e, h⟩ | ⟨a', b', c', e, h⟩)
        · simp at e
        · simp only [D.tup.injEq, List.cons.injEq, and_true, true_and] at e
          rw [e.1, e.2.1, e.2.2]; exact h
      · have g3 : t_shows_can_3 [.va (film n cs), .va (dL L), .va (dRu r), .va (.tup [.str s, a, b, c])] = .rt (.bl false) [.va (film n cs), .va (dL L), .va (dRu r), .va (.tup [.str s, a, b, c])] := by
          have e : (s == "full") = false := beq_eq_false_iff_ne.mpr hs
          unfold t_shows_can_3
          generalize film n cs = zf
          generalize dL L = zl
          generalize dRu r = zr
          simp [e, L2.ixN]
        refine ⟨false, ⟨fun h => (Bool.false_ne_true h).elim, ?_⟩, fin ((seq_nx g2).trans (rt_seq g3))⟩
        rintro (⟨b', e, h⟩ | ⟨a', b', c', e, h⟩)
        · simp at e
        · simp only [D.tup.injEq, List.cons.injEq, D.str.injEq] at e
          exact (hs e.1).elim
    · refine ⟨false, ⟨fun h => (Bool.false_ne_true h).elim, ?_⟩, fin (rt_seq ?_)⟩
      · rintro (⟨b', e, h⟩ | ⟨a', b', c', e, h⟩)
        · exact (hp ⟨_, _, e⟩).elim
        · exact (hq ⟨_, _, _, _, e⟩).elim
      · have n0 := notIn24 0
        have n1 := notIn24 1
        have n2 := notIn24 2
        have n3 := notIn24 3
        have n4 := notIn24 4
        have n0 : dNotIn (.int 0) (.tup [.int 2, .int 4]) = some (.bl true) := n0
        have n1 : dNotIn (.int 1) (.tup [.int 2, .int 4]) = some (.bl true) := n1
        have n2 : dNotIn (.int 2) (.tup [.int 2, .int 4]) = some (.bl false) := n2
        have n3 : dNotIn (.int 3) (.tup [.int 2, .int 4]) = some (.bl true) := n3
        have n4 : dNotIn (.int 4) (.tup [.int 2, .int 4]) = some (.bl false) := n4
        unfold t_shows_can_2
        generalize film n cs = zf
        generalize dL L = zl
        generalize dRu r = zr
        match v, hp, hq with
        | .tup [x, b], hp, _ =>
          cases x with
          | str s => exact (hp ⟨s, b, rfl⟩).elim
          | _ => simp [n2, L2.ixN]
        | .tup [x, a, b, c], _, hq =>
          cases x with
          | str s => exact (hq ⟨s, a, b, c, rfl⟩).elim
          | _ => simp [n4, L2.ixN]
        | .tup [], _, _ => simp [n0]
        | .tup [_], _, _ => simp [n1]
        | .tup [_, _, _], _, _ => simp [n3]
        | .tup (_ :: _ :: _ :: _ :: _ :: r), _, _ =>
          have n5 := notIn24 ((r.length : Int) + 1 + 1 + 1 + 1 + 1)
          have h2 : ((2 : Int) == (r.length : Int) + 1 + 1 + 1 + 1 + 1) = false := beq_eq_false_iff_ne.mpr (by omega)
          have h4 : ((4 : Int) == (r.length : Int) + 1 + 1 + 1 + 1 + 1) = false := beq_eq_false_iff_ne.mpr (by omega)
          rw [h2, h4] at n5
          have n5 : dNotIn (.int ((r.length : Int) + 1 + 1 + 1 + 1 + 1)) (.tup [.int 2, .int 4]) = some (.bl true) := n5
          simp [n5]
        | .non, _, _ => simp
        | .bl _, _, _ => simp
        | .int _, _, _ => simp
        | .str _, _, _ => simp
        | .lst _, _, _ => simp
end My
namespace My
open PySem PySem.Spec PyProof.Rows L2 RT
variable {n : Int} {cs : List Int} {l : Ln} {r : Ru} {t : Int} {L : List Ln}
theorem e_law_fits (hc : cs.length ≤ 1000) (s : Int × Int) : F__law_fits [.va (film n cs), .va (dLn l), .va (dRu r), .va (dSh s)] = .ok (.bl (fitB n cs l r s.1 s.2), [.va (film n cs), .va (dLn l), .va (dRu r), .va (dSh s)]) := by
  have g1 : t__law_fits_1 [.va (film n cs), .va (dLn l), .va (dRu r), .va (dSh s), .un, .un, .un] = .nx [.va (film n cs), .va (dLn l), .va (dRu r), .va (dSh s), .va (.int s.1), .va (.int s.2), .un] := rfl
  have c : c__law_fits_1 [.va (film n cs), .va (dLn l), .va (dRu r), .va (dSh s), .va (.int s.1), .va (.int s.2), .un] = .ok (cs.map (fun c => .bl (decide (s.1 < c) && decide (c < s.2))), [.va (film n cs), .va (dLn l), .va (dRu r), .va (dSh s), .va (.int s.1), .va (.int s.2), .un]) := by
    unfold c__law_fits_1
    refine oLc_map cs D.int _ rfl rfl ?_ (szn (by omega))
    intro c _
    refine ⟨[(6, .int c)], rfl, by simp, ?_⟩
    by_cases h : s.1 < c <;> simp [h]
  have a1 : dAny [.lst (cs.map fun c => D.bl (decide (s.1 < c) && decide (c < s.2)))] = some (.bl (cutB cs s.1 s.2)) := by
    have e : (cs.map fun c => D.bl (decide (s.1 < c) && decide (c < s.2))) = (cs.map fun c => decide (s.1 < c) && decide (c < s.2)).map D.bl := by rw [List.map_map] <;> rfl
    rw [e, r_anyL]
    unfold cutB
    simp
  have x0 : dIx (dLn l) (.int 0) = some (.int l.1) := rfl
  have x1 : dIx (dLn l) (.int 1) = some (.int l.2.1) := rfl
  have x2 : dIx (dLn l) (.int 2) = some (.int l.2.2) := rfl
  have y0 : dIx (dRu r) (.int 0) = some (.int r.a) := rfl
  have y1 : dIx (dRu r) (.int 1) = some (.int r.b) := rfl
  have y2 : dIx (dRu r) (.int 2) = some (.int r.c) := rfl
  have z0 := film0 (n := n) (cs := cs)
  have main : sSeq t__law_fits_2 t__law_fits_3 [.va (film n cs), .va (dLn l), .va (dRu r), .va (dSh s), .va (.int s.1), .va (.int s.2), .un] = .rt (.bl (fitB n cs l r s.1 s.2)) [.va (film n cs), .va (dLn l), .va (dRu r), .va (dSh s), .va (.int s.1), .va (.int s.2), .un] := by
    have ef : fitB n cs l r s.1 s.2 = (!(decide (s.1 < l.1 - r.a) || decide (s.1 > l.1 + r.b) || decide (s.2 > l.2.1 + r.c) || decide (s.2 > n) || decide (s.2 - s.1 < l.2.2)) && !(cutB cs s.1 s.2)) := rfl
    rw [ef]
    generalize cs.map (fun c => D.bl (decide (s.1 < c) && decide (c < s.2))) = z at c a1
    generalize cutB cs s.1 s.2 = k at a1 ⊢
    generalize film n cs = zf at c z0 ⊢
    generalize dLn l = zl at c x0 x1 x2 ⊢
    generalize dRu r = zr at c y0 y1 y2 ⊢
    generalize dSh s = zs at c ⊢
    by_cases h1 : s.1 < l.1 - r.a
    · simp [t__law_fits_2, x0, y0, h1]
    · by_cases h2 : s.1 > l.1 + r.b
      · have h2' : l.1 + r.b < s.1 := h2
        simp [t__law_fits_2, x0, y0, y1, h1, h2']
      · have h2' : ¬ l.1 + r.b < s.1 := h2
        by_cases h3 : s.2 > l.2.1 + r.c
        · have h3' : l.2.1 + r.c < s.2 := h3
          simp [t__law_fits_2, x0, x1, y0, y1, y2, h1, h2', h3']
        · have h3' : ¬ l.2.1 + r.c < s.2 := h3
          by_cases h4 : s.2 > n
          · have h4' : n < s.2 := h4
            simp [t__law_fits_2, x0, x1, y0, y1, y2, z0, h1, h2', h3', h4']
          · have h4' : ¬ n < s.2 := h4
            by_cases h5 : s.2 - s.1 < l.2.2
            · simp [t__law_fits_2, x0, x1, x2, y0, y1, y2, z0, h1, h2', h3', h4', h5]
            · simp [t__law_fits_2, t__law_fits_3, c, a1, x0, x1, x2, y0, y1, y2, z0, h1, h2', h3', h4', h5]
  have h5 : g__law_fits ([.va (film n cs), .va (dLn l), .va (dRu r), .va (dSh s)] ++ List.replicate 3 .un) = _ := (seq_nx g1).trans main
  exact call_of rfl h5 rfl
theorem showsL_len : (showsL n cs l r).length ≤ n.toNat := by
  unfold showsL
  refine Nat.le_trans (List.length_filter_le _ _) (Nat.le_trans (List.length_filter_le _ _) ?_)
  simp
theorem e_law_shows (hf : OkF n cs) : F__law_shows [.va (film n cs), .va (dLn l), .va (dRu r)] = .ok (.lst ((showsL n cs l r).map dSh), [.va (film n cs), .va (dLn l), .va (dRu r)]) := by
  have hn := hf.n1
  have hn2 := hf.n2
  have x2 : dIx (dLn l) (.int 2) = some (.int l.2.2) := rfl
  have z0 := film0 (n := n) (cs := cs)
  have c1 : c__law_shows_1 [.va (film n cs), .va (dLn l), .va (dRu r), .un, .un, .un] = .ok (((((List.range n.toNat).map fun (i : Nat) => ((i : Int), (i : Int) + l.2.2)).filter fun p => decide (p.2 ≤ n))).map dSh, [.va (film n cs), .va (dLn l), .va (dRu r), .un, .un, .un]) := by
    unfold c__law_shows_1
    rw [List.filter_map, List.map_map]
    refine oLc_pure (List.range n.toNat) (fun (i : Nat) => D.int (i : Int)) _ _ (it_goF (by omega) ?_) rfl ?_ (by rw [List.length_range]; exact szn (by omega))
    · rw [show ((n.toNat : Nat) : Int) = n by omega]
      generalize film n cs = zf at z0 ⊢
      simp [z0]
    · intro i hi
      refine ⟨[(4, .int (i : Int))], rfl, by simp, ?_, fun _ => ?_⟩
      · generalize film n cs = zf at z0 ⊢
        generalize dLn l = zl at x2 ⊢
        simp [z0, x2]
      · generalize dLn l = zl at x2 ⊢
        simp [x2, dSh]
  have g1 : t__law_shows_1 [.va (film n cs), .va (dLn l), .va (dRu r), .un, .un, .un] = .nx [.va (film n cs), .va (dLn l), .va (dRu r), .va (.lst (((((List.range n.toNat).map fun (i : Nat) => ((i : Int), (i : Int) + l.2.2)).filter fun p => decide (p.2 ≤ n))).map dSh)), .un, .un] := by
    simp only [t__law_shows_1, r_sSet, r_eO, c1, Rs.ok_bind, r_sRs_ok]
    rfl
  have c2 : c__law_shows_2 [.va (film n cs), .va (dLn l), .va (dRu r), .va (.lst (((((List.range n.toNat).map fun (i : Nat) => ((i : Int), (i : Int) + l.2.2)).filter fun p => decide (p.2 ≤ n))).map dSh)), .un, .un] = .ok ((showsL n cs l r).map dSh, [.va (film n cs), .va (dLn l), .va (dRu r), .va (.lst (((((List.range n.toNat).map fun (i : Nat) => ((i : Int), (i : Int) + l.2.2)).filter fun p => decide (p.2 ≤ n))).map dSh)), .un, .un]) := by
    unfold c__law_shows_2 showsL
    refine oLc_pure _ dSh (fun p => fitB n cs l r p.1 p.2) dSh rfl rfl ?_ ?_
    · intro s hs
      refine ⟨[(5, dSh s)], rfl, by simp, ?_, fun _ => rfl⟩
      rw [r_bV, eCall_eq (Fn := F__law_fits) (ds := [film n cs, dLn l, dRu r, dSh s]) rfl (e_law_fits hf.len s)]
      rfl
    · refine szn (Nat.le_trans (List.length_filter_le _ _) ?_)
      simp
      omega
  have h5 : g__law_shows ([.va (film n cs), .va (dLn l), .va (dRu r)] ++ List.replicate 3 .un) = .rt (.lst ((showsL n cs l r).map dSh)) [.va (film n cs), .va (dLn l), .va (dRu r), .va (.lst (((((List.range n.toNat).map fun (i : Nat) => ((i : Int), (i : Int) + l.2.2)).filter fun p => decide (p.2 ≤ n))).map dSh)), .un, .un] := by
    refine (seq_nx g1).trans ?_
    simp only [t__law_shows_2, r_sRet, r_eO, c2, Rs.ok_bind, r_sRs_ok]
  exact call_of rfl h5 rfl
theorem eq_sh (L : List (Int × Int)) : dEq (.lst (L.map dSh)) (.lst []) = some (.bl L.isEmpty) := by
  have sh : SeqAt.shaped (dP (.lst (L.map dSh))) = true := by
    obtain ⟨h1, h2⟩ := lay_sh L
    simp only [SeqAt.shaped, dP, PyData.canLay0, PyData.depth, h1, Bool.true_and, decide_eq_true_eq]
    omega
  show (eqD _ _).map _ = _
  unfold eqD
  rw [if_pos ⟨sh, by decide⟩]
  cases L with
  | nil => rfl
  | cons n ns => rfl
theorem ix0_sh {p : Int × Int} {M : List (Int × Int)} : dIx (.lst ((p :: M).map dSh)) (.int 0) = some (dSh p) := by
  rw [r_ixL]
  have : ixN ((p :: M).map dSh).length 0 = some 0 := by
    unfold ixN
    rw [if_pos (by omega), if_pos (by simp)]
    rfl
  rw [this]
  rfl
theorem from_c {vs7 : Nat} {ρ : List B} (hf : OkF n cs) (lx : ES) (sx : ES) (h : (eCall F__law_shows (aCons (eSlot 0) (aCons lx (aCons (eSlot 2) aNil)))) ρ = .ok (.lst ((showsL n cs l r).map dSh), ρ)) (hno : noOw ρ [vs7] = true) (hw : ∀ s, sx (putB (wipeB ρ [vs7]) [(vs7, dSh s)]) = .ok (.int t, putB (wipeB ρ [vs7]) [(vs7, dSh s)])) (hs : ∀ s, (putB (wipeB ρ [vs7]) [(vs7, dSh s)])[vs7]? = some (.va (dSh s))) :
    oLc [vs7] (iSeq (eCall F__law_shows (aCons (eSlot 0) (aCons lx (aCons (eSlot 2) aNil))))) (gN vs7) (bV (eOp dGe (eOp dIx (eSlot vs7) (eC (.int 0))) sx)) (eSlot vs7) ρ = .ok ((showsF n cs l r t).map dSh, ρ) := by
  have hl := showsL_len (n := n) (cs := cs) (l := l) (r := r)
  have hn2 := hf.n2
  unfold showsF
  refine oLc_pure (showsL n cs l r) dSh (fun p => decide (t ≤ p.1)) dSh ?_ hno ?_ (szn (by omega))
  · rw [r_iSeq, h]
    rfl
  · intro s _
    have h1 := hw s
    have h2 := hs s
    have h0 : dIx (dSh s) (.int 0) = some (.int s.1) := rfl
    refine ⟨[(vs7, dSh s)], rfl, by simp, ?_, fun _ => ?_⟩
    · generalize putB (wipeB ρ [vs7]) [(vs7, dSh s)] = ρ2 at h1 h2 ⊢
      generalize dSh s = zs at h2 h0
      simp [h2, h0, h1]
    · generalize putB (wipeB ρ [vs7]) [(vs7, dSh s)] = ρ2 at h1 h2 ⊢
      simp [h2]
theorem head_none {M : List (Int × Int)} (h : M.head? = none) : M = [] := by cases M with
  | nil => rfl
  | cons _ _ => cases h
theorem early_loop (hf : OkF n cs) (hr : OkR r) (Ld : D) : ∀ (L : List Ln) (p : Nat) (t : Int) (acc : List (Int × Int)) (j5 j6 : B), acc.length + L.length ≤ 1000 →
    ∃ t' j5' j6', forGo (gN 5) b__law_early_1 (L.map dLn) [.va (film n cs), .va Ld, .va (dRu r), .ow false (acc.map dSh), .va (.int t), j5, j6, .un] =
      match (gtold n cs r t p L).2 with
      | none => .nx [.va (film n cs), .va Ld, .va (dRu r), .ow false ((acc ++ (gtold n cs r t p L).1).map dSh), .va (.int t'), j5', j6', .un]
      | some _ => .rt .non [.va (film n cs), .va Ld, .va (dRu r), .ow false ((acc ++ (gtold n cs r t p L).1).map dSh), .va (.int t'), j5', j6', .un]
  | [], p, t, acc, j5, j6, _ => ⟨t, j5, j6, by simp [forGo, gtold]⟩
  | l :: L, p, t, acc, j5, j6, hz => by
    have hc : c__law_early_1 [.va (film n cs), .va Ld, .va (dRu r), .ow false (acc.map dSh), .va (.int t), .va (dLn l), j6, .un] = .ok ((showsF n cs l r t).map dSh, [.va (film n cs), .va Ld, .va (dRu r), .ow false (acc.map dSh), .va (.int t), .va (dLn l), j6, .un]) := by
      unfold c__law_early_1
      exact from_c (vs7 := 7) hf (eSlot 5) (eSlot 4) (eCall_eq (ds := [film n cs, dLn l, dRu r]) rfl (e_law_shows hf)) rfl (fun s => rfl) (fun s => rfl)
    have f1 : sSet 6 (eO c__law_early_1) [.va (film n cs), .va Ld, .va (dRu r), .ow false (acc.map dSh), .va (.int t), .va (dLn l), j6, .un] = .nx [.va (film n cs), .va Ld, .va (dRu r), .ow false (acc.map dSh), .va (.int t), .va (dLn l), .va (.lst ((showsF n cs l r t).map dSh)), .un] := by
      simp only [r_sSet, r_eO, hc, Rs.ok_bind, r_sRs_ok]
      rfl
    have hz2 : acc.length < sizeLine := by rw [sizeLine_eq]; simp at hz; omega
    have heq := eq_sh (showsF n cs l r t)
    have hgx : dIx (dRu r) (.int 3) = some (.int r.g) := rfl
    rw [List.map_cons]
    unfold forGo
    simp only [r_gN, r_putB1, r_putB0, List.set_cons_succ, List.set_cons_zero]
    cases hs : firstS n cs l r t with
    | none =>
      have he : showsF n cs l r t = [] := head_none hs
      rw [he] at f1 heq
      have heq : dEq (.lst []) (.lst []) = some (.bl true) := heq
      have hb : b__law_early_1 [.va (film n cs), .va Ld, .va (dRu r), .ow false (acc.map dSh), .va (.int t), .va (dLn l), j6, .un] = .rt .non [.va (film n cs), .va Ld, .va (dRu r), .ow false (acc.map dSh), .va (.int t), .va (dLn l), .va (.lst []), .un] := by
        unfold b__law_early_1
        refine (seq_nx f1).trans ?_
        generalize film n cs = zf
        generalize dLn l = zl
        generalize dRu r = zr
        generalize acc.map dSh = z
        simp [heq]
      refine ⟨t, .va (dLn l), .va (.lst []), ?_⟩
      simp only [hb, gtold, hs, List.append_nil]
    | some s =>
      obtain ⟨M, he⟩ : ∃ M, showsF n cs l r t = s :: M := by
        have hs : (showsF n cs l r t).head? = some s := hs
        cases hh : showsF n cs l r t with
        | nil => rw [hh] at hs; cases hs
        | cons x M => rw [hh] at hs; cases hs; exact ⟨M, rfl⟩
      rw [he] at f1 heq
      have heq : dEq (.lst ((s :: M).map dSh)) (.lst []) = some (.bl false) := heq
      have hx0 := ix0_sh (p := s) (M := M)
      have hx1 : dIx (dSh s) (.int 1) = some (.int s.2) := rfl
      have hz3 : (acc.map dSh).length < sizeLine := by rw [List.length_map]; exact hz2
      have hb : b__law_early_1 [.va (film n cs), .va Ld, .va (dRu r), .ow false (acc.map dSh), .va (.int t), .va (dLn l), j6, .un] = .nx [.va (film n cs), .va Ld, .va (dRu r), .ow false ((acc ++ [s]).map dSh), .va (.int (s.2 + r.g)), .va (dLn l), .va (.lst ((s :: M).map dSh)), .un] := by
        unfold b__law_early_1
        refine (seq_nx f1).trans ?_
        rw [List.map_append, show [s].map dSh = [dSh s] from rfl]
        generalize D.lst ((s :: M).map dSh) = y at heq hx0 ⊢
        generalize film n cs = zf
        generalize dLn l = zl
        generalize dRu r = zr at hgx ⊢
        generalize acc.map dSh = z at hz3 ⊢
        generalize dSh s = zs at hx0 hx1 ⊢
        simp [heq, hx0, hx1, hgx, hz3]
      obtain ⟨t', j5', j6', ih⟩ := early_loop hf hr Ld L (p + 1) (s.2 + r.g) (acc ++ [s]) (.va (dLn l)) (.va (.lst ((s :: M).map dSh))) (by simp at hz ⊢; omega)
      refine ⟨t', j5', j6', ?_⟩
      simp only [hb]
      rw [ih]
      simp only [gtold, hs]
      rw [show acc ++ [s] ++ (gtold n cs r (s.2 + r.g) (p + 1) L).1 = acc ++ s :: (gtold n cs r (s.2 + r.g) (p + 1) L).1 by simp]
def soonD (n : Int) (cs : List Int) (r : Ru) (L : List Ln) : D := match (gtold n cs r 0 0 L).2 with
  | none => .lst ((gtold n cs r 0 0 L).1.map dSh)
  | some _ => .non
theorem e_law_early (hf : OkF n cs) (hr : OkR r) (hl : L.length ≤ 30) : F__law_early [.va (film n cs), .va (dL L), .va (dRu r)] = .ok (soonD n cs r L, [.va (film n cs), .va (dL L), .va (dRu r)]) := by
  have g1 : t__law_early_1 [.va (film n cs), .va (dL L), .va (dRu r), .un, .un, .un, .un, .un] = .nx [.va (film n cs), .va (dL L), .va (dRu r), .ow false (([] : List (Int × Int)).map dSh), .va (.int 0), .un, .un, .un] := by
    generalize film n cs = zf
    generalize dL L = zl
    generalize dRu r = zr
    simp [t__law_early_1]
  obtain ⟨t', j5', j6', h⟩ := early_loop (n := n) (cs := cs) (r := r) hf hr (dL L) L 0 0 [] .un .un (by simp; omega)
  rw [List.nil_append] at h
  have g2 : t__law_early_2 [.va (film n cs), .va (dL L), .va (dRu r), .ow false (([] : List (Int × Int)).map dSh), .va (.int 0), .un, .un, .un] = forGo (gN 5) b__law_early_1 (L.map dLn) [.va (film n cs), .va (dL L), .va (dRu r), .ow false (([] : List (Int × Int)).map dSh), .va (.int 0), .un, .un, .un] := rfl
  unfold soonD
  cases hq : (gtold n cs r 0 0 L).2 with
  | none =>
    rw [hq] at h
    have h5 : g__law_early ([.va (film n cs), .va (dL L), .va (dRu r)] ++ List.replicate 5 .un) = .rt (.lst ((gtold n cs r 0 0 L).1.map dSh)) [.va (film n cs), .va (dL L), .va (dRu r), .va (.lst ((gtold n cs r 0 0 L).1.map dSh)), .va (.int t'), j5', j6', .un] := (seq_nx g1).trans ((seq_nx (g2.trans h)).trans rfl)
    exact call_of rfl h5 rfl
  | some q =>
    rw [hq] at h
    have h5 : g__law_early ([.va (film n cs), .va (dL L), .va (dRu r)] ++ List.replicate 5 .un) = _ := (seq_nx g1).trans (rt_seq (g2.trans h))
    exact call_of rfl h5 rfl
theorem lwrong_loop {Pd : D} {P : List (Int × Int)} (hP : ∀ (k : Nat) (s : Int × Int), P[k]? = some s → dIx Pd (.int (k : Int)) = some (dSh s)) (hc : cs.length ≤ 1000) : ∀ (S : List (Int × Int)) (p : Nat) (j4 j5 : B), P.drop p = S → p + S.length ≤ L.length →
    ∃ j4' j5', forGo (gT (gsCons (gN 4) (gsCons (gN 5) gsNil))) b__law_wrong_1 (enumD p (S.map dSh)) [.va (film n cs), .va (dL L), .va (dRu r), .va Pd, j4, j5] =
      match wrongP n cs r (pvOf P p) p (L.drop p) S with
      | none => .nx [.va (film n cs), .va (dL L), .va (dRu r), .va Pd, j4', j5']
      | some q => .rt (dWr (some q)) [.va (film n cs), .va (dL L), .va (dRu r), .va Pd, j4', j5']
  | [], p, j4, j5, _, _ => ⟨j4, j5, by
    have : wrongP n cs r (pvOf P p) p (L.drop p) [] = none := by unfold wrongP; cases L.drop p <;> rfl
    rw [this]
    simp [enumD, forGo]⟩
  | s :: S, p, j4, j5, hd, hl => by
    have hps : P[p]? = some s := by
      have := congrArg (fun x => x[0]?) hd
      simpa using this
    have hpl : p < L.length := by simp at hl; omega
    have hd2 : P.drop (p + 1) = S := by
      have := congrArg (List.drop 1) hd
      rw [List.drop_drop] at this
      simpa [Nat.add_comm] using this
    have hLd : L.drop p = L[p] :: L.drop (p + 1) := List.drop_eq_getElem_cons hpl
    have hLp : L[p]? = some L[p] := List.getElem?_eq_getElem hpl
    generalize L[p] = l at hLd hLp
    have hx := ix_L hLp
    have hs := e_law_fits (n := n) (l := l) (r := r) hc s
    show ∃ j4' j5', forGo _ b__law_wrong_1 (.tup [.int (p : Int), dSh s] :: enumD (p + 1) (S.map dSh)) _ = _
    unfold forGo
    simp only [r_gT, r_gsCons, r_gN, r_gsNil, Option.bind_some, List.append_nil, List.cons_append, List.nil_append, r_putB1, r_putB0, List.set_cons_succ, List.set_cons_zero]
    have c1 : eCall F__law_fits (aCons (eSlot 0) (aCons (eOp dIx (eSlot 1) (eSlot 4)) (aCons (eSlot 2) (aCons (eSlot 5) aNil)))) [.va (film n cs), .va (dL L), .va (dRu r), .va Pd, .va (.int (p : Int)), .va (dSh s)] = .ok (.bl (fitB n cs l r s.1 s.2), [.va (film n cs), .va (dL L), .va (dRu r), .va Pd, .va (.int (p : Int)), .va (dSh s)]) := by
      refine eCall_eq (ds := [film n cs, dLn l, dRu r, dSh s]) ?_ hs
      generalize dL L = z at hx ⊢
      simp [hx]
    rw [hLd]
    cases hfit : fitB n cs l r s.1 s.2 with
    | false =>
      rw [hfit] at c1
      have hb : b__law_wrong_1 [.va (film n cs), .va (dL L), .va (dRu r), .va Pd, .va (.int (p : Int)), .va (dSh s)] = .rt (.tup [.int (p : Int), .str "unfit"]) [.va (film n cs), .va (dL L), .va (dRu r), .va Pd, .va (.int (p : Int)), .va (dSh s)] := by
        unfold b__law_wrong_1
        generalize (eCall F__law_fits (aCons (eSlot 0) (aCons (eOp dIx (eSlot 1) (eSlot 4)) (aCons (eSlot 2) (aCons (eSlot 5) aNil))))) = ce at c1 ⊢
        generalize film n cs = zf at c1 ⊢
        generalize dL L = zl at c1 ⊢
        generalize dRu r = zr at c1 ⊢
        generalize dSh s = zs at c1 ⊢
        simp [c1]
      refine ⟨.va (.int (p : Int)), .va (dSh s), ?_⟩
      simp only [hb]
      unfold wrongP
      simp only [hfit, Bool.false_eq_true, if_false]
      rfl
    | true =>
      rw [hfit] at c1
      have h0 : dIx (dSh s) (.int 0) = some (.int s.1) := rfl
      have hg : dIx (dRu r) (.int 3) = some (.int r.g) := rfl
      have fin : ∀ k : Bool, (pvOf P p).any (fun o => decide (s.1 < o + r.g)) = k → b__law_wrong_1 [.va (film n cs), .va (dL L), .va (dRu r), .va Pd, .va (.int (p : Int)), .va (dSh s)] = if k = true then .rt (.tup [.int (p : Int), .str "near"]) [.va (film n cs), .va (dL L), .va (dRu r), .va Pd, .va (.int (p : Int)), .va (dSh s)] else .nx [.va (film n cs), .va (dL L), .va (dRu r), .va Pd, .va (.int (p : Int)), .va (dSh s)] := by
        intro k hk
        unfold b__law_wrong_1
        by_cases hp0 : p = 0
        · subst hp0
          have hk : k = false := by rw [← hk]; rfl
          subst hk
          generalize (eCall F__law_fits (aCons (eSlot 0) (aCons (eOp dIx (eSlot 1) (eSlot 4)) (aCons (eSlot 2) (aCons (eSlot 5) aNil))))) = ce at c1 ⊢
          generalize film n cs = zf at c1 ⊢
          generalize dL L = zl at c1 ⊢
          generalize dRu r = zr at c1 ⊢
          generalize dSh s = zs at c1 ⊢
          have c1 : ce [.va zf, .va zl, .va zr, .va Pd, .va (.int 0), .va zs] = .ok (.bl true, [.va zf, .va zl, .va zr, .va Pd, .va (.int 0), .va zs]) := c1
          simp [c1]
        · have hlt : p - 1 < P.length := by have := (List.getElem?_eq_some_iff.mp hps).1; omega
          have hq := List.getElem?_eq_getElem hlt
          generalize P[p - 1] = s0 at hq
          have hx0 := hP (p - 1) s0 hq
          rw [show ((p - 1 : Nat) : Int) = (p : Int) - 1 by omega] at hx0
          have h1 : dIx (dSh s0) (.int 1) = some (.int s0.2) := rfl
          have hpp : 0 < p := by omega
          have hk : k = decide (s.1 < s0.2 + r.g) := by
            rw [← hk]
            unfold pvOf
            rw [if_neg hp0, hq]
            rfl
          subst hk
          generalize (eCall F__law_fits (aCons (eSlot 0) (aCons (eOp dIx (eSlot 1) (eSlot 4)) (aCons (eSlot 2) (aCons (eSlot 5) aNil))))) = ce at c1 ⊢
          generalize film n cs = zf at c1 ⊢
          generalize dL L = zl at c1 ⊢
          generalize dRu r = zr at c1 hg ⊢
          generalize dSh s = zs at c1 h0 ⊢
          generalize dSh s0 = zs0 at hx0 h1
          by_cases hc : s.1 < s0.2 + r.g
          · simp [c1, hpp, h0, hx0, h1, hg, hc]
          · simp [c1, hpp, h0, hx0, h1, hg, hc]
      have hb := fin _ rfl
      cases hany : (pvOf P p).any (fun o => decide (s.1 < o + r.g)) with
      | true =>
        rw [hany] at hb
        rw [if_pos rfl] at hb
        refine ⟨.va (.int (p : Int)), .va (dSh s), ?_⟩
        simp only [hb]
        unfold wrongP
        simp only [hfit, if_true, hany]
        rfl
      | false =>
        rw [hany] at hb
        rw [if_neg Bool.false_ne_true] at hb
        obtain ⟨j4', j5', ih⟩ := lwrong_loop hP hc S (p + 1) (.va (.int (p : Int))) (.va (dSh s)) hd2 (by simp at hl; omega)
        refine ⟨j4', j5', ?_⟩
        simp only [hb]
        rw [ih]
        have e : pvOf P (p + 1) = some s.2 := by
          unfold pvOf
          rw [if_neg (by omega), show p + 1 - 1 = p by omega, hps]
          rfl
        rw [e]
        have e2 : wrongP n cs r (pvOf P p) p (l :: L.drop (p + 1)) (s :: S) = wrongP n cs r (some s.2) (p + 1) (L.drop (p + 1)) S := by
          rw [wrongP]
          simp only [hfit, if_true, hany, Bool.false_eq_true, if_false]
        rw [e2]
theorem e_law_wrong {P : List (Int × Int)} (hc : cs.length ≤ 1000) (hl : P.length = L.length) : F__law_wrong [.va (film n cs), .va (dL L), .va (dRu r), .va (.lst (P.map dSh))] = .ok (dWr (wrongP n cs r none 0 L P), [.va (film n cs), .va (dL L), .va (dRu r), .va (.lst (P.map dSh))]) := by
  obtain ⟨j4, j5, h⟩ := lwrong_loop (Pd := .lst (P.map dSh)) (n := n) (r := r) (L := L) (fun k s h => (ix_P h).2) hc P 0 .un .un rfl (by omega)
  have e0 : pvOf P 0 = none := rfl
  rw [e0, List.drop_zero] at h
  have g1 : t__law_wrong_1 [.va (film n cs), .va (dL L), .va (dRu r), .va (.lst (P.map dSh)), .un, .un] = forGo (gT (gsCons (gN 4) (gsCons (gN 5) gsNil))) b__law_wrong_1 (enumD 0 (P.map dSh)) [.va (film n cs), .va (dL L), .va (dRu r), .va (.lst (P.map dSh)), .un, .un] := rfl
  cases hq : wrongP n cs r none 0 L P with
  | none =>
    rw [hq] at h
    have h5 : g__law_wrong ([.va (film n cs), .va (dL L), .va (dRu r), .va (.lst (P.map dSh))] ++ List.replicate 2 .un) = .rt .non [.va (film n cs), .va (dL L), .va (dRu r), .va (.lst (P.map dSh)), j4, j5] := (seq_nx (g1.trans h)).trans rfl
    exact call_of rfl h5 rfl
  | some q =>
    rw [hq] at h
    have h5 : g__law_wrong ([.va (film n cs), .va (dL L), .va (dRu r), .va (.lst (P.map dSh))] ++ List.replicate 2 .un) = _ := rt_seq (g1.trans h)
    exact call_of rfl h5 rfl
end My
namespace My
open PySem PySem.Spec PyProof.Rows L2 RT
variable {n : Int} {cs : List Int} {l : Ln} {r : Ru} {t : Int} {L : List Ln}
def oInt : Option Int → D
  | none => .non
  | some o => .int o
def tIf1 : List B → Fl := (sIf (bOr (bNot (bV (eUn (dIsi "tuple") (eSlot 6)))) (bOr (bV (eOp dNe (eBlt dLen (aCons (eSlot 6) aNil)) (eC (.int 2)))) (bNot (bV (eBlt dAll (aCons (eO c__law_is_plan_1) aNil)))))) (sRet (eC (.bl false))) sNx)
def tIf2 : List B → Fl := (sIf (bOr (bNot (bV (eChain3 dLe dLt dLe (eC (.int 0)) (eOp dIx (eSlot 6) (eC (.int 0))) (eOp dIx (eSlot 6) (eC (.int 1))) (eC (.int 400))))) (bOr (bNot (bV (eCall F__law_fits (aCons (eSlot 0) (aCons (eSlot 5) (aCons (eSlot 2) (aCons (eSlot 6) aNil))))))) (bAnd (bV (eOp dIsNot (eSlot 4) (eC .non))) (bV (eOp dLt (eOp dIx (eSlot 6) (eC (.int 0))) (eOp dAdd (eSlot 4) (eOp dIx (eSlot 2) (eC (.int 3))))))))) (sRet (eC (.bl false))) sNx)
theorem lip_c {a0 a1 a2 a3 a4 a5 : B} (ds : List D) (hz : ds.length ≤ 1000) : c__law_is_plan_1 [a0, a1, a2, a3, a4, a5, .va (.tup ds), .un] = .ok (ds.map (fun d => .bl (isI d)), [a0, a1, a2, a3, a4, a5, .va (.tup ds), .un]) := by
  unfold c__law_is_plan_1
  have := oLc_map (vs := [7]) (it := (iSeq (eSlot 6))) (tg := (gN 7)) (te := (eAnd (eUn (dIsi "int") (eSlot 7)) (eNot (eUn (dIsi "bool") (eSlot 7))))) (ρ := [a0, a1, a2, a3, a4, a5, .va (.tup ds), .un]) (ρ1 := [a0, a1, a2, a3, a4, a5, .va (.tup ds), .un]) ds id (fun d => .bl (isI d)) (by simp) rfl (fun d _ => ⟨[(7, d)], rfl, by simp, by cases d <;> simp [isI]⟩) (szn (by omega))
  exact this
theorem tif1_sh {a0 a1 a2 a3 a4 a5 : B} (s : Int × Int) : tIf1 [a0, a1, a2, a3, a4, a5, .va (dSh s), .un] = .nx [a0, a1, a2, a3, a4, a5, .va (dSh s), .un] := by
  have c := lip_c (a0 := a0) (a1 := a1) (a2 := a2) (a3 := a3) (a4 := a4) (a5 := a5) [.int s.1, .int s.2] (by simp)
  have a := r_allA ([D.int s.1, D.int s.2] : List D) isI
  have a : dAll [.lst (([D.int s.1, D.int s.2] : List D).map fun d => D.bl (isI d))] = some (.bl true) := a
  unfold tIf1 dSh
  generalize ([D.int s.1, D.int s.2] : List D).map (fun d => D.bl (isI d)) = y at c a
  generalize c__law_is_plan_1 = cc at c ⊢
  simp [c, a]
theorem tif1_no {a0 a1 a2 a3 a4 a5 : B} {d : D} (hz : ∀ ds, d = .tup ds → ds.length ≤ 1000) (h : ¬ ∃ a b : Int, d = .tup [.int a, .int b]) : tIf1 [a0, a1, a2, a3, a4, a5, .va d, .un] = .rt (.bl false) [a0, a1, a2, a3, a4, a5, .va d, .un] := by
  unfold tIf1
  cases d with
  | tup ds =>
    by_cases h2 : ds.length = 2
    · have c := lip_c (a0 := a0) (a1 := a1) (a2 := a2) (a3 := a3) (a4 := a4) (a5 := a5) ds (hz ds rfl)
      have aa := r_allA ds isI
      have hf : ds.all isI = false := by
        match ds, h2, h with
        | [x, y], _, h =>
          cases x with
          | int a =>
            cases y with
            | int b => exact (h ⟨a, b, rfl⟩).elim
            | _ => rfl
          | _ => rfl
      rw [hf] at aa
      have hln : dLen [.tup ds] = some (.int 2) := by rw [r_lenT, h2]; rfl
      have hit : dIsi "tuple" (.tup ds) = some (.bl true) := by simp
      generalize ds.map (fun d => D.bl (isI d)) = y at c aa
      generalize c__law_is_plan_1 = cc at c ⊢
      generalize D.tup ds = z at c hln hit ⊢
      simp [c, aa, hln, hit]
    · have h3 : ((ds.length : Int) == 2) = false := beq_eq_false_iff_ne.mpr (by omega)
      simp [h3]
  | _ => simp
theorem tif2_e {a1 a3 : B} (hc : cs.length ≤ 1000) (pv : Option Int) (s : Int × Int) : tIf2 [.va (film n cs), a1, .va (dRu r), a3, .va (oInt pv), .va (dLn l), .va (dSh s), .un] =
    if (decide (0 ≤ s.1) && decide (s.1 < s.2) && decide (s.2 ≤ 400) && fitB n cs l r s.1 s.2 && !(pv.any fun o => decide (s.1 < o + r.g))) = true then .nx [.va (film n cs), a1, .va (dRu r), a3, .va (oInt pv), .va (dLn l), .va (dSh s), .un] else .rt (.bl false) [.va (film n cs), a1, .va (dRu r), a3, .va (oInt pv), .va (dLn l), .va (dSh s), .un] := by
  have c1 := eCall_eq (Fn := F__law_fits) (a := (aCons (eSlot 0) (aCons (eSlot 5) (aCons (eSlot 2) (aCons (eSlot 6) aNil))))) (ρ := [.va (film n cs), a1, .va (dRu r), a3, .va (oInt pv), .va (dLn l), .va (dSh s), .un]) (ρ1 := [.va (film n cs), a1, .va (dRu r), a3, .va (oInt pv), .va (dLn l), .va (dSh s), .un]) (ds := [film n cs, dLn l, dRu r, dSh s]) rfl (e_law_fits hc s)
  have h0 : dIx (dSh s) (.int 0) = some (.int s.1) := rfl
  have h1 : dIx (dSh s) (.int 1) = some (.int s.2) := rfl
  have hg : dIx (dRu r) (.int 3) = some (.int r.g) := rfl
  unfold tIf2
  generalize eCall F__law_fits (aCons (eSlot 0) (aCons (eSlot 5) (aCons (eSlot 2) (aCons (eSlot 6) aNil)))) = ce at c1 ⊢
  generalize film n cs = zf at c1 ⊢
  generalize dLn l = zl at c1 ⊢
  generalize dRu r = zr at c1 hg ⊢
  generalize dSh s = zs at c1 h0 h1 ⊢
  generalize fitB n cs l r s.1 s.2 = k at c1 ⊢
  by_cases x1 : 0 ≤ s.1
  · by_cases x2 : s.1 < s.2
    · by_cases x3 : s.2 ≤ 400
      · cases k with
        | false => simp [c1, h0, h1, x1, x2, x3]
        | true =>
          cases pv with
          | none =>
            have e : dIsNot (oInt none) .non = some (.bl false) := rfl
            generalize oInt none = zo at c1 e ⊢
            simp [c1, h0, h1, x1, x2, x3, e]
          | some o =>
            have e : dIsNot (oInt (some o)) .non = some (.bl true) := rfl
            have c1 : ce [.va zf, a1, .va zr, a3, .va (.int o), .va zl, .va zs, .un] = .ok (.bl true, [.va zf, a1, .va zr, a3, .va (.int o), .va zl, .va zs, .un]) := c1
            have e : dIsNot (.int o) .non = some (.bl true) := e
            show (sIf _ _ _) [.va zf, a1, .va zr, a3, .va (.int o), .va zl, .va zs, .un] = _
            by_cases x4 : s.1 < o + r.g
            · simp [c1, h0, h1, x1, x2, x3, e, hg, x4, oInt]
            · simp [c1, h0, h1, x1, x2, x3, e, hg, x4, oInt]
      · simp [h0, h1, x1, x2, x3]
    · simp [h0, h1, x1, x2]
  · simp [h0, h1, x1]
theorem lip_loop (hc : cs.length ≤ 1000) (Ld vb : D) : ∀ (ds : List D) (L : List Ln) (pv : Option Int) (p : Nat) (j5 j6 : B), ds.length = L.length → (∀ d ∈ ds, ∀ gs, d = .tup gs → gs.length ≤ 1000) →
    ∃ (k : Bool) (x4 x5 x6 : B), (k = true ↔ ∃ P : List (Int × Int), ds = P.map dSh ∧ (∀ s ∈ P, 0 ≤ s.1 ∧ s.1 < s.2 ∧ s.2 ≤ 400) ∧ wrongP n cs r pv p L P = none) ∧
      forGo (gT (gsCons (gN 5) (gsCons (gN 6) gsNil))) b__law_is_plan_1 ((L.zip ds).map fun p => .tup [dLn p.1, p.2]) [.va (film n cs), .va Ld, .va (dRu r), .va vb, .va (oInt pv), j5, j6, .un] =
        if k = true then .nx [.va (film n cs), .va Ld, .va (dRu r), .va vb, x4, x5, x6, .un] else .rt (.bl false) [.va (film n cs), .va Ld, .va (dRu r), .va vb, x4, x5, x6, .un]
  | [], L, pv, p, j5, j6, hl, _ => by
    have : L = [] := List.length_eq_zero_iff.mp hl.symm
    subst this
    refine ⟨true, .va (oInt pv), j5, j6, ⟨fun _ => ⟨[], rfl, (fun s h => nomatch h), by unfold wrongP; rfl⟩, fun _ => rfl⟩, ?_⟩
    simp [forGo]
  | d :: ds, [], pv, p, j5, j6, hl, _ => by simp at hl
  | d :: ds, l :: L, pv, p, j5, j6, hl, hz => by
    have hbody : b__law_is_plan_1 = sSeq tIf1 (sSeq tIf2 (sSet 4 (eOp dIx (eSlot 6) (eC (.int 1))))) := rfl
    rw [List.zip_cons_cons, List.map_cons]
    unfold forGo
    simp only [r_gT, r_gsCons, r_gN, r_gsNil, Option.bind_some, List.append_nil, List.cons_append, List.nil_append, r_putB1, r_putB0, List.set_cons_succ, List.set_cons_zero]
    by_cases hd : ∃ a b : Int, d = .tup [.int a, .int b]
    · obtain ⟨a, b, rfl⟩ := hd
      have e : D.tup [.int a, .int b] = dSh (a, b) := rfl
      rw [e]
      have f1 := tif1_sh (a0 := .va (film n cs)) (a1 := .va Ld) (a2 := .va (dRu r)) (a3 := .va vb) (a4 := .va (oInt pv)) (a5 := .va (dLn l)) (a, b)
      have f2 := tif2_e (n := n) (cs := cs) (l := l) (r := r) (a1 := .va Ld) (a3 := .va vb) hc pv (a, b)
      cases hk : (decide (0 ≤ a) && decide (a < b) && decide (b ≤ 400) && fitB n cs l r a b && !(pv.any fun o => decide (a < o + r.g))) with
      | false =>
        rw [hk] at f2
        have f2 : tIf2 [.va (film n cs), .va Ld, .va (dRu r), .va vb, .va (oInt pv), .va (dLn l), .va (dSh (a, b)), .un] = .rt (.bl false) [.va (film n cs), .va Ld, .va (dRu r), .va vb, .va (oInt pv), .va (dLn l), .va (dSh (a, b)), .un] := f2
        have hb : b__law_is_plan_1 [.va (film n cs), .va Ld, .va (dRu r), .va vb, .va (oInt pv), .va (dLn l), .va (dSh (a, b)), .un] = .rt (.bl false) [.va (film n cs), .va Ld, .va (dRu r), .va vb, .va (oInt pv), .va (dLn l), .va (dSh (a, b)), .un] := by
          rw [hbody]
          exact (seq_nx f1).trans (rt_seq f2)
        refine ⟨false, .va (oInt pv), .va (dLn l), .va (dSh (a, b)), ⟨fun h => (Bool.false_ne_true h).elim, ?_⟩, ?_⟩
        · rintro ⟨P, e1, hv, hw⟩
          cases P with
          | nil => simp at e1
          | cons s P =>
            rw [List.map_cons, List.cons.injEq] at e1
            have es : s = (a, b) := by
              have := dSh_inj [(a, b)] [s] (by simp [e1.1])
              simp at this
              exact this.symm
            subst es
            obtain ⟨v1, v2, v3⟩ := hv _ List.mem_cons_self
            unfold wrongP at hw
            by_cases hfit : fitB n cs l r a b = true
            · rw [if_pos hfit] at hw
              by_cases hn : pv.any (fun o => decide (a < o + r.g)) = true
              · rw [if_pos hn] at hw; cases hw
              · have hn' : pv.any (fun o => decide (a < o + r.g)) = false := by cases q : pv.any (fun o => decide (a < o + r.g)) with
                  | false => rfl
                  | true => exact (hn q).elim
                simp [v1, v2, v3, hfit, hn'] at hk
            · rw [if_neg hfit] at hw; cases hw
        · simp only [hb, Bool.false_eq_true, if_false]
      | true =>
        rw [hk, if_pos rfl] at f2
        simp only [Bool.and_eq_true, decide_eq_true_eq, Bool.not_eq_true'] at hk
        obtain ⟨⟨⟨⟨v1, v2⟩, v3⟩, hfit⟩, hn⟩ := hk
        have hb : b__law_is_plan_1 [.va (film n cs), .va Ld, .va (dRu r), .va vb, .va (oInt pv), .va (dLn l), .va (dSh (a, b)), .un] = .nx [.va (film n cs), .va Ld, .va (dRu r), .va vb, .va (oInt (some b)), .va (dLn l), .va (dSh (a, b)), .un] := by
          rw [hbody]
          exact (seq_nx f1).trans ((seq_nx f2).trans rfl)
        obtain ⟨k, x4, x5, x6, hk2, ih⟩ := lip_loop hc Ld vb ds L (some b) (p + 1) (.va (dLn l)) (.va (dSh (a, b))) (by simpa using hl) (fun d hd => hz d (List.mem_cons_of_mem _ hd))
        refine ⟨k, x4, x5, x6, hk2.trans ?_, ?_⟩
        · constructor
          · rintro ⟨P, e1, hv, hw⟩
            refine ⟨(a, b) :: P, by rw [e1]; rfl, fun s hs => ?_, ?_⟩
            · rcases List.mem_cons.mp hs with q | q
              · rw [q]; exact ⟨v1, v2, v3⟩
              · exact hv s q
            · unfold wrongP
              simp only [hfit, if_true, hn, Bool.false_eq_true, if_false]
              exact hw
          · rintro ⟨P, e1, hv, hw⟩
            cases P with
            | nil => simp at e1
            | cons s P =>
              rw [List.map_cons, List.cons.injEq] at e1
              have es : s = (a, b) := by
                have := dSh_inj [(a, b)] [s] (by simp [e1.1])
                simp at this
                exact this.symm
              subst es
              refine ⟨P, e1.2, fun s hs => hv s (List.mem_cons_of_mem _ hs), ?_⟩
              unfold wrongP at hw
              simp only [hfit, if_true, hn, Bool.false_eq_true, if_false] at hw
              exact hw
        · simp only [hb]
          exact ih
    · have f1 := tif1_no (a0 := .va (film n cs)) (a1 := .va Ld) (a2 := .va (dRu r)) (a3 := .va vb) (a4 := .va (oInt pv)) (a5 := .va (dLn l)) (hz d List.mem_cons_self) hd
      have hb : b__law_is_plan_1 [.va (film n cs), .va Ld, .va (dRu r), .va vb, .va (oInt pv), .va (dLn l), .va d, .un] = .rt (.bl false) [.va (film n cs), .va Ld, .va (dRu r), .va vb, .va (oInt pv), .va (dLn l), .va d, .un] := by
        rw [hbody]
        exact rt_seq f1
      refine ⟨false, .va (oInt pv), .va (dLn l), .va d, ⟨fun h => (Bool.false_ne_true h).elim, ?_⟩, ?_⟩
      · rintro ⟨P, e1, _, _⟩
        cases P with
        | nil => simp at e1
        | cons s P =>
          rw [List.map_cons, List.cons.injEq] at e1
          exact (hd ⟨s.1, s.2, e1.1⟩).elim
      · simp only [hb, Bool.false_eq_true, if_false]
theorem e_law_is_plan (hc : cs.length ≤ 1000) (b : D) (hz : Sz b) : ∃ k : Bool, (k = true ↔ GoodPlan n cs r L b) ∧ F__law_is_plan [.va (film n cs), .va (dL L), .va (dRu r), .va b] = .ok (.bl k, [.va (film n cs), .va (dL L), .va (dRu r), .va b]) := by
  have hlL : dLen [dL L] = some (.int L.length) := by unfold dL; rw [r_lenT, List.length_map]
  have dead : t__law_is_plan_1 [.va (film n cs), .va (dL L), .va (dRu r), .va b, .un, .un, .un, .un] = .rt (.bl false) [.va (film n cs), .va (dL L), .va (dRu r), .va b, .un, .un, .un, .un] → F__law_is_plan [.va (film n cs), .va (dL L), .va (dRu r), .va b] = .ok (.bl false, [.va (film n cs), .va (dL L), .va (dRu r), .va b]) := fun h => by
    have h5 : g__law_is_plan ([.va (film n cs), .va (dL L), .va (dRu r), .va b] ++ List.replicate 4 .un) = _ := rt_seq h
    exact call_of rfl h5 rfl
  by_cases hb : ∃ ds, b = .tup ds ∧ ds.length = L.length
  · obtain ⟨ds, rfl, hl⟩ := hb
    have g1 : t__law_is_plan_1 [.va (film n cs), .va (dL L), .va (dRu r), .va (.tup ds), .un, .un, .un, .un] = .nx [.va (film n cs), .va (dL L), .va (dRu r), .va (.tup ds), .un, .un, .un, .un] := by
      have h1 : ((ds.length : Int) == (L.length : Int)) = true := by rw [hl]; exact beq_self_eq_true _
      unfold t__law_is_plan_1
      generalize film n cs = zf
      generalize dL L = zl at hlL ⊢
      generalize dRu r = zr
      simp [hlL, h1]
    have g2 : t__law_is_plan_2 [.va (film n cs), .va (dL L), .va (dRu r), .va (.tup ds), .un, .un, .un, .un] = .nx [.va (film n cs), .va (dL L), .va (dRu r), .va (.tup ds), .va (oInt none), .un, .un, .un] := rfl
    obtain ⟨k, x4, x5, x6, hk, h⟩ := lip_loop (n := n) (cs := cs) (r := r) hc (dL L) (.tup ds) ds L none 0 .un .un hl (hz.one ds rfl).2
    have g3 : t__law_is_plan_3 [.va (film n cs), .va (dL L), .va (dRu r), .va (.tup ds), .va (oInt none), .un, .un, .un] = forGo (gT (gsCons (gN 5) (gsCons (gN 6) gsNil))) b__law_is_plan_1 ((L.zip ds).map fun p => .tup [dLn p.1, p.2]) [.va (film n cs), .va (dL L), .va (dRu r), .va (.tup ds), .va (oInt none), .un, .un, .un] := by
      have e := zipD_map dLn (id : D → D) L ds
      rw [List.map_id] at e
      unfold t__law_is_plan_3
      rw [r_sFor]
      simp only [r_iZip, r_eSlot, List.getElem?_cons_zero, List.getElem?_cons_succ, Rs.ok_bind, dL, ofO_some, r_seqT, e, r_sRs_ok]
      rfl
    refine ⟨k, hk.trans ⟨?_, ?_⟩, ?_⟩
    · rintro ⟨P, e1, hv, hw⟩
      exact ⟨P, by rw [e1], by rw [← hl, e1, List.length_map], hv, hw⟩
    · rintro ⟨P, e1, _, hv, hw⟩
      injection e1 with e1
      exact ⟨P, e1, hv, hw⟩
    · cases k with
      | true =>
        rw [if_pos rfl] at h
        have h5 : g__law_is_plan ([.va (film n cs), .va (dL L), .va (dRu r), .va (.tup ds)] ++ List.replicate 4 .un) = .rt (.bl true) [.va (film n cs), .va (dL L), .va (dRu r), .va (.tup ds), x4, x5, x6, .un] := (seq_nx g1).trans ((seq_nx g2).trans ((seq_nx (g3.trans h)).trans rfl))
        exact call_of rfl h5 rfl
      | false =>
        rw [if_neg Bool.false_ne_true] at h
        have h5 : g__law_is_plan ([.va (film n cs), .va (dL L), .va (dRu r), .va (.tup ds)] ++ List.replicate 4 .un) = .rt (.bl false) [.va (film n cs), .va (dL L), .va (dRu r), .va (.tup ds), x4, x5, x6, .un] := (seq_nx g1).trans ((seq_nx g2).trans (rt_seq (g3.trans h)))
        exact call_of rfl h5 rfl
  · refine ⟨false, ⟨fun h => (Bool.false_ne_true h).elim, ?_⟩, dead ?_⟩
    · rintro ⟨P, e1, h1, _⟩
      exact (hb ⟨_, e1, by rw [List.length_map]; exact h1⟩).elim
    · unfold t__law_is_plan_1
      generalize film n cs = zf
      generalize dL L = zl at hlL ⊢
      generalize dRu r = zr
      cases b with
      | tup ds =>
        have h1 : ((ds.length : Int) == (L.length : Int)) = false := beq_eq_false_iff_ne.mpr fun e => hb ⟨ds, rfl, by omega⟩
        simp [hlL, h1]
      | _ => simp
end My
namespace My
open PySem PySem.Spec PyProof.Rows L2 RT
variable {n : Int} {cs : List Int} {l : Ln} {r : Ru} {t : Int} {L : List Ln}
theorem showsF_asc : ((showsF n cs l r t).map (·.2)).Pairwise (· < ·) := by
  unfold showsF showsL
  rw [List.pairwise_map]
  refine List.Pairwise.filter _ (List.Pairwise.filter _ (List.Pairwise.filter _ ?_))
  rw [List.pairwise_map]
  refine List.Pairwise.imp ?_ (List.pairwise_lt_range (n := n.toNat))
  intro a b h
  simp only
  omega
theorem min_first {s : Int × Int} {M : List (Int × Int)} (h : showsF n cs l r t = s :: M) : minL ((showsF n cs l r t).map (·.2)) = some s.2 := by
  have := showsF_asc (n := n) (cs := cs) (l := l) (r := r) (t := t)
  rw [h] at this ⊢
  rw [List.map_cons] at this ⊢
  obtain ⟨p1, _⟩ := List.pairwise_cons.mp this
  refine minL_of List.mem_cons_self fun x hx => ?_
  rcases List.mem_cons.mp hx with e | e
  · rw [e]; exact Int.le_refl _
  · have := p1 x e
    omega
def tickF (t : Int) (bs : List Int) (g : Int) : Int := match bs.getLast? with
  | none => t
  | some b => b + g
theorem tickF_cons (t b : Int) (bs : List Int) (g : Int) : tickF t (b :: bs) g = tickF (b + g) bs g := by
  unfold tickF
  cases bs with
  | nil => rfl
  | cons c r =>
    rw [List.getLast?_cons_cons, List.getLast?_eq_some_getLast (l := c :: r) (by simp)]
theorem fromOff_c {ρ : List B} (hf : OkF n cs) (h : (eCall F__law_shows (aCons (eSlot 0) (aCons (eSlot 7) (aCons (eSlot 2) aNil)))) ρ = .ok (.lst ((showsL n cs l r).map dSh), ρ)) (hno : noOw ρ [11] = true) (hw : ∀ s, (putB (wipeB ρ [11]) [(11, dSh s)])[6]? = some (.va (.int t))) (hs : ∀ s, (putB (wipeB ρ [11]) [(11, dSh s)])[11]? = some (.va (dSh s))) :
    c__law_is_full_2 ρ = .ok (((showsF n cs l r t).map (·.2)).map D.int, ρ) := by
  have hl := showsL_len (n := n) (cs := cs) (l := l) (r := r)
  have hn2 := hf.n2
  unfold c__law_is_full_2 showsF
  rw [List.map_map]
  refine oLc_pure (showsL n cs l r) dSh (fun p => decide (t ≤ p.1)) _ ?_ hno ?_ (szn (by omega))
  · rw [r_iSeq, h]
    rfl
  · intro s _
    have h1 := hw s
    have h2 := hs s
    have h0 : dIx (dSh s) (.int 0) = some (.int s.1) := rfl
    have h01 : dIx (dSh s) (.int 1) = some (.int s.2) := rfl
    refine ⟨[(11, dSh s)], rfl, by simp, ?_, fun _ => ?_⟩
    · generalize putB (wipeB ρ [11]) [(11, dSh s)] = ρ2 at h1 h2 ⊢
      generalize dSh s = zs at h2 h0
      simp [h2, h0, h1]
    · generalize putB (wipeB ρ [11]) [(11, dSh s)] = ρ2 at h1 h2 ⊢
      generalize dSh s = zs at h2 h01
      simp [h2, h01]
theorem ne_nilI (ns : List Int) : dNe (.lst (ns.map D.int)) (.lst []) = some (.bl (!ns.isEmpty)) := ne_nil ns
theorem lif_loop (hf : OkF n cs) (hr : OkR r) (Ld a b c : D) : ∀ (ds : List D) (M : List Ln) (t : Int) (j7 j8 j9 : B), ds.length ≤ M.length →
    ∃ t' j7' j8' j9', (∃ bs : List Int, ds = bs.map D.int ∧ (∀ x ∈ bs, 0 ≤ x ∧ x ≤ 400) ∧ shownB n cs r t M bs = true ∧ t' = .va (.int (tickF t bs r.g)) ∧ forGo (gT (gsCons (gN 7) (gsCons (gN 8) gsNil))) b__law_is_full_1 ((M.zip ds).map fun p => .tup [dLn p.1, p.2]) [.va (film n cs), .va Ld, .va (dRu r), .va a, .va b, .va c, .va (.int t), j7, j8, j9, .un, .un] = .nx [.va (film n cs), .va Ld, .va (dRu r), .va a, .va b, .va c, t', j7', j8', j9', .un, .un]) ∨
      ((¬ ∃ bs : List Int, ds = bs.map D.int ∧ (∀ x ∈ bs, 0 ≤ x ∧ x ≤ 400) ∧ shownB n cs r t M bs = true) ∧ forGo (gT (gsCons (gN 7) (gsCons (gN 8) gsNil))) b__law_is_full_1 ((M.zip ds).map fun p => .tup [dLn p.1, p.2]) [.va (film n cs), .va Ld, .va (dRu r), .va a, .va b, .va c, .va (.int t), j7, j8, j9, .un, .un] = .rt (.bl false) [.va (film n cs), .va Ld, .va (dRu r), .va a, .va b, .va c, t', j7', j8', j9', .un, .un])
  | [], M, t, j7, j8, j9, _ => by
    refine ⟨.va (.int t), j7, j8, j9, .inl ⟨[], rfl, (fun x h => nomatch h), ?_, rfl, ?_⟩⟩
    · unfold shownB; cases M <;> rfl
    · rw [List.zip_nil_right]
      simp [forGo]
  | d :: ds, [], t, j7, j8, j9, hl => by simp at hl
  | d :: ds, l :: M, t, j7, j8, j9, hl => by
    rw [List.zip_cons_cons, List.map_cons]
    unfold forGo
    simp only [r_gT, r_gsCons, r_gN, r_gsNil, Option.bind_some, List.append_nil, List.cons_append, List.nil_append, r_putB1, r_putB0, List.set_cons_succ, List.set_cons_zero]
    by_cases hd : ∃ x : Int, d = .int x ∧ 0 ≤ x ∧ x ≤ 400
    · obtain ⟨x, rfl, hx1, hx2⟩ := hd
      have hbody1 : (sIf (bOr (bNot (bV (eUn (dIsi "int") (eSlot 8)))) (bOr (bV (eUn (dIsi "bool") (eSlot 8))) (bNot (bV (eChain dLe dLe (eC (.int 0)) (eSlot 8) (eC (.int 400))))))) (sRet (eC (.bl false))) sNx) [.va (film n cs), .va Ld, .va (dRu r), .va a, .va b, .va c, .va (.int t), .va (dLn l), .va (.int x), j9, .un, .un] = .nx [.va (film n cs), .va Ld, .va (dRu r), .va a, .va b, .va c, .va (.int t), .va (dLn l), .va (.int x), j9, .un, .un] := by
        generalize film n cs = zf
        generalize dLn l = zl
        generalize dRu r = zr
        simp [hx1, hx2]
      have hc : c__law_is_full_2 [.va (film n cs), .va Ld, .va (dRu r), .va a, .va b, .va c, .va (.int t), .va (dLn l), .va (.int x), j9, .un, .un] = .ok (((showsF n cs l r t).map (·.2)).map D.int, [.va (film n cs), .va Ld, .va (dRu r), .va a, .va b, .va c, .va (.int t), .va (dLn l), .va (.int x), j9, .un, .un]) :=
        fromOff_c hf (eCall_eq (ds := [film n cs, dLn l, dRu r]) rfl (e_law_shows hf)) rfl (fun s => rfl) (fun s => rfl)
      have f2 : sSet 9 (eO c__law_is_full_2) [.va (film n cs), .va Ld, .va (dRu r), .va a, .va b, .va c, .va (.int t), .va (dLn l), .va (.int x), j9, .un, .un] = .nx [.va (film n cs), .va Ld, .va (dRu r), .va a, .va b, .va c, .va (.int t), .va (dLn l), .va (.int x), .va (.lst (((showsF n cs l r t).map (·.2)).map D.int)), .un, .un] := by
        simp only [r_sSet, r_eO, hc, Rs.ok_bind, r_sRs_ok]
        rfl
      have hgx : dIx (dRu r) (.int 3) = some (.int r.g) := rfl
      have hne := ne_nilI ((showsF n cs l r t).map (·.2))
      have hbody : ∀ k : Bool, (match firstS n cs l r t with
          | none => true
          | some s => !decide (x > s.2)) = k → b__law_is_full_1 [.va (film n cs), .va Ld, .va (dRu r), .va a, .va b, .va c, .va (.int t), .va (dLn l), .va (.int x), j9, .un, .un] = if k = true then .nx [.va (film n cs), .va Ld, .va (dRu r), .va a, .va b, .va c, .va (.int (x + r.g)), .va (dLn l), .va (.int x), .va (.lst (((showsF n cs l r t).map (·.2)).map D.int)), .un, .un] else .rt (.bl false) [.va (film n cs), .va Ld, .va (dRu r), .va a, .va b, .va c, .va (.int t), .va (dLn l), .va (.int x), .va (.lst (((showsF n cs l r t).map (·.2)).map D.int)), .un, .un] := by
        intro k hk
        unfold b__law_is_full_1
        refine (seq_nx hbody1).trans ((seq_nx f2).trans ?_)
        cases hs : firstS n cs l r t with
        | none =>
          rw [hs] at hk
          have hk : true = k := hk
          subst hk
          have he : showsF n cs l r t = [] := head_none hs
          rw [he] at hne ⊢
          have hne : dNe (.lst []) (.lst []) = some (.bl false) := hne
          generalize film n cs = zf
          generalize dLn l = zl
          generalize dRu r = zr at hgx ⊢
          simp [hne, hgx]
        | some s =>
          rw [hs] at hk
          have hk : (!decide (x > s.2)) = k := hk
          obtain ⟨N, he⟩ : ∃ N, showsF n cs l r t = s :: N := by
            have hs : (showsF n cs l r t).head? = some s := hs
            cases hh : showsF n cs l r t with
            | nil => rw [hh] at hs; cases hs
            | cons y N => rw [hh] at hs; cases hs; exact ⟨N, rfl⟩
          have hm := min_first he
          have hmm := r_minL ((showsF n cs l r t).map (·.2))
          rw [hm] at hmm
          have hmm : dMin [.lst (((showsF n cs l r t).map (·.2)).map D.int)] = some (.int s.2) := hmm
          have hne : dNe (.lst (((showsF n cs l r t).map (·.2)).map D.int)) (.lst []) = some (.bl true) := by rw [hne, he]; rfl
          generalize ((showsF n cs l r t).map (·.2)).map D.int = z at hmm hne ⊢
          generalize film n cs = zf
          generalize dLn l = zl
          generalize dRu r = zr at hgx ⊢
          by_cases hxs : x > s.2
          · have : k = false := by rw [← hk, decide_eq_true hxs]; rfl
            subst this
            have hxs' : s.2 < x := hxs
            simp [hne, hmm, hxs']
          · have : k = true := by rw [← hk, decide_eq_false hxs]; rfl
            subst this
            have hxs' : ¬ s.2 < x := hxs
            simp [hne, hmm, hxs', hgx]
      have es : ∀ bs, shownB n cs r t (l :: M) (x :: bs) = ((match firstS n cs l r t with
        | none => true
        | some s => !decide (x > s.2)) && shownB n cs r (x + r.g) M bs) := fun bs => by rw [shownB]; try (cases firstS n cs l r t <;> rfl)
      cases hk : (match firstS n cs l r t with
          | none => true
          | some s => !decide (x > s.2)) with
      | true =>
        have hb := hbody true hk
        rw [if_pos rfl] at hb
        obtain ⟨t', j7', j8', j9', ih⟩ := lif_loop hf hr Ld a b c ds M (x + r.g) (.va (dLn l)) (.va (.int x)) (.va (.lst (((showsF n cs l r t).map (·.2)).map D.int))) (by simpa using hl)
        refine ⟨t', j7', j8', j9', ?_⟩
        simp only [hb]
        rcases ih with ⟨bs, e1, e2, e3, e4, e5⟩ | ⟨e1, e2⟩
        · left
          refine ⟨x :: bs, by rw [e1]; rfl, fun y hy => ?_, by rw [es, hk, e3]; rfl, by rw [e4, tickF_cons], e5⟩
          rcases List.mem_cons.mp hy with q | q
          · rw [q]; exact ⟨hx1, hx2⟩
          · exact e2 y q
        · right
          refine ⟨?_, e2⟩
          rintro ⟨bs, q1, q2, q3⟩
          cases bs with
          | nil => simp at q1
          | cons y bs =>
            rw [List.map_cons, List.cons.injEq, D.int.injEq] at q1
            obtain ⟨rfl, q1⟩ := q1
            rw [es, hk, Bool.true_and] at q3
            exact e1 ⟨bs, q1, fun z hz => q2 z (List.mem_cons_of_mem _ hz), q3⟩
      | false =>
        have hb := hbody false hk
        rw [if_neg Bool.false_ne_true] at hb
        refine ⟨.va (.int t), .va (dLn l), .va (.int x), .va (.lst (((showsF n cs l r t).map (·.2)).map D.int)), .inr ⟨?_, ?_⟩⟩
        · rintro ⟨bs, q1, q2, q3⟩
          cases bs with
          | nil => simp at q1
          | cons y bs =>
            rw [List.map_cons, List.cons.injEq, D.int.injEq] at q1
            obtain ⟨rfl, q1⟩ := q1
            rw [es, hk] at q3
            cases q3
        · simp only [hb]
    · have hb : b__law_is_full_1 [.va (film n cs), .va Ld, .va (dRu r), .va a, .va b, .va c, .va (.int t), .va (dLn l), .va d, j9, .un, .un] = .rt (.bl false) [.va (film n cs), .va Ld, .va (dRu r), .va a, .va b, .va c, .va (.int t), .va (dLn l), .va d, j9, .un, .un] := by
        unfold b__law_is_full_1
        refine rt_seq ?_
        generalize film n cs = zf
        generalize dLn l = zl
        generalize dRu r = zr
        cases d with
        | int x =>
          by_cases h1 : 0 ≤ x
          · have h2 : ¬ x ≤ 400 := fun h2 => hd ⟨x, rfl, h1, h2⟩
            simp [h1, h2]
          · simp [h1]
        | _ => simp
      refine ⟨.va (.int t), .va (dLn l), .va d, j9, .inr ⟨?_, ?_⟩⟩
      · rintro ⟨bs, q1, q2, q3⟩
        cases bs with
        | nil => simp at q1
        | cons y bs =>
          rw [List.map_cons, List.cons.injEq] at q1
          exact hd ⟨y, q1.1, q2 y List.mem_cons_self⟩
      · simp only [hb]
theorem lif_c1 {a0 a1 a2 a5 a6 a7 a8 a9 a11 : B} (a b : D) : c__law_is_full_1 [a0, a1, a2, .va a, .va b, a5, a6, a7, a8, a9, .un, a11] = .ok ([a, b].map (fun d => .bl (isI d)), [a0, a1, a2, .va a, .va b, a5, a6, a7, a8, a9, .un, a11]) := by
  unfold c__law_is_full_1
  have := oLc_map (vs := [10]) (it := (iSeq (eTup (aCons (eSlot 3) (aCons (eSlot 4) aNil))))) (tg := (gN 10)) (te := (eAnd (eUn (dIsi "int") (eSlot 10)) (eNot (eUn (dIsi "bool") (eSlot 10))))) (ρ := [a0, a1, a2, .va a, .va b, a5, a6, a7, a8, a9, .un, a11]) (ρ1 := [a0, a1, a2, .va a, .va b, a5, a6, a7, a8, a9, .un, a11]) [a, b] id (fun d => .bl (isI d)) (by simp) rfl (fun d _ => ⟨[(10, d)], rfl, by simp, by cases d <;> simp [isI]⟩) (by simp)
  exact this
theorem e_law_is_full (hf : OkF n cs) (hr : OkR r) (hL : OkL n L) (a b c : D) (hz : ∀ ds, c = .tup ds → ds.length ≤ 1000) : ∃ k : Bool, (k = true ↔ IsFull n cs r L a b c) ∧ F__law_is_full [.va (film n cs), .va (dL L), .va (dRu r), .va a, .va b, .va c] = .ok (.bl k, [.va (film n cs), .va (dL L), .va (dRu r), .va a, .va b, .va c]) := by
  have hlL : dLen [dL L] = some (.int L.length) := by unfold dL; rw [r_lenT, List.length_map]
  have hll := hL.len
  have fin : ∀ {k : Bool} {x6 x7 x8 x9 x10 x11 : B}, g__law_is_full [.va (film n cs), .va (dL L), .va (dRu r), .va a, .va b, .va c, .un, .un, .un, .un, .un, .un] = .rt (.bl k) [.va (film n cs), .va (dL L), .va (dRu r), .va a, .va b, .va c, x6, x7, x8, x9, x10, x11] → F__law_is_full [.va (film n cs), .va (dL L), .va (dRu r), .va a, .va b, .va c] = .ok (.bl k, [.va (film n cs), .va (dL L), .va (dRu r), .va a, .va b, .va c]) := fun {k} {x6 x7 x8 x9 x10 x11} h => by
    have h5 : g__law_is_full ([.va (film n cs), .va (dL L), .va (dRu r), .va a, .va b, .va c] ++ List.replicate 6 .un) = _ := h
    exact call_of rfl h5 rfl
  have cc := lif_c1 (a0 := .va (film n cs)) (a1 := .va (dL L)) (a2 := .va (dRu r)) (a5 := .va c) (a6 := .un) (a7 := .un) (a8 := .un) (a9 := .un) (a11 := .un) a b
  have aa := r_allA [a, b] isI
  by_cases hab : ∃ f la : Nat, a = .int f ∧ b = .int la ∧ f ≤ la ∧ la < L.length
  · obtain ⟨f, la, rfl, rfl, hfl, hla⟩ := hab
    have aa : dAll [.lst (([D.int (f : Int), D.int (la : Int)] : List D).map fun d => D.bl (isI d))] = some (.bl true) := aa
    have g1 : t__law_is_full_1 [.va (film n cs), .va (dL L), .va (dRu r), .va (.int f), .va (.int la), .va c, .un, .un, .un, .un, .un, .un] = .nx [.va (film n cs), .va (dL L), .va (dRu r), .va (.int f), .va (.int la), .va c, .un, .un, .un, .un, .un, .un] := by
      have i1 : (0 : Int) ≤ f := by omega
      have i2 : (f : Int) ≤ la := by omega
      have i3 : (la : Int) < L.length := by omega
      unfold t__law_is_full_1
      generalize ([D.int (f : Int), D.int (la : Int)] : List D).map (fun d => D.bl (isI d)) = y at cc aa
      generalize c__law_is_full_1 = c1 at cc ⊢
      generalize film n cs = zf at cc ⊢
      generalize dL L = zl at cc hlL ⊢
      generalize dRu r = zr at cc ⊢
      generalize (f : Int) = fi at cc i1 i2 ⊢
      generalize (la : Int) = li at cc i2 i3 ⊢
      simp [cc, aa, hlL, i1, i2, i3]
    by_cases hc : ∃ ds, c = .tup ds ∧ ds.length = la - f
    · obtain ⟨ds, rfl, hdl⟩ := hc
      have g2 : t__law_is_full_2 [.va (film n cs), .va (dL L), .va (dRu r), .va (.int f), .va (.int la), .va (.tup ds), .un, .un, .un, .un, .un, .un] = .nx [.va (film n cs), .va (dL L), .va (dRu r), .va (.int f), .va (.int la), .va (.tup ds), .un, .un, .un, .un, .un, .un] := by
        have h1 : ((ds.length : Int) == (la : Int) - f) = true := beq_iff_eq.mpr (by omega)
        unfold t__law_is_full_2
        generalize film n cs = zf
        generalize dL L = zl
        generalize dRu r = zr
        simp [h1]
      have g3 : t__law_is_full_3 [.va (film n cs), .va (dL L), .va (dRu r), .va (.int f), .va (.int la), .va (.tup ds), .un, .un, .un, .un, .un, .un] = .nx [.va (film n cs), .va (dL L), .va (dRu r), .va (.int f), .va (.int la), .va (.tup ds), .va (.int 0), .un, .un, .un, .un, .un] := rfl
      obtain ⟨t', j7', j8', j9', hloop⟩ := lif_loop (n := n) (cs := cs) (r := r) hf hr (dL L) (.int f) (.int la) (.tup ds) ds (L.drop f) 0 .un .un .un (by rw [List.length_drop]; omega)
      have g4 : t__law_is_full_4 [.va (film n cs), .va (dL L), .va (dRu r), .va (.int f), .va (.int la), .va (.tup ds), .va (.int 0), .un, .un, .un, .un, .un] = forGo (gT (gsCons (gN 7) (gsCons (gN 8) gsNil))) b__law_is_full_1 (((L.drop f).zip ds).map fun p => .tup [dLn p.1, p.2]) [.va (film n cs), .va (dL L), .va (dRu r), .va (.int f), .va (.int la), .va (.tup ds), .va (.int 0), .un, .un, .un, .un, .un] := by
        have ct := cut_drop (L.map dLn) (v := (f : Int)) (by omega)
        rw [Int.toNat_natCast, ← List.map_drop] at ct
        have e := zipD_map dLn (id : D → D) (L.drop f) ds
        rw [List.map_id] at e
        unfold t__law_is_full_4
        rw [r_sFor]
        simp only [r_iZip, r_eSlot, r_eSl, r_oAt, r_oNo, List.getElem?_cons_zero, List.getElem?_cons_succ, Rs.ok_bind, dL, r_slT, ct, ofO_some, r_seqT, e, r_sRs_ok]
        rfl
      rcases hloop with ⟨bs, e1, e2, e3, e4, e5⟩ | ⟨e1, e2⟩
      · have hLa : L[la]? = some L[la] := List.getElem?_eq_getElem hla
        generalize L[la] = l at hLa
        have hxl := ix_L hLa
        subst e4
        have hc3 : c__law_is_full_3 [.va (film n cs), .va (dL L), .va (dRu r), .va (.int f), .va (.int la), .va (.tup ds), .va (.int (tickF 0 bs r.g)), j7', j8', j9', .un, .un] = .ok ((showsF n cs l r (tickF 0 bs r.g)).map dSh, [.va (film n cs), .va (dL L), .va (dRu r), .va (.int f), .va (.int la), .va (.tup ds), .va (.int (tickF 0 bs r.g)), j7', j8', j9', .un, .un]) := by
          unfold c__law_is_full_3
          refine from_c (vs7 := 11) hf (eOp dIx (eSlot 1) (eSlot 4)) (eSlot 6) (eCall_eq (ds := [film n cs, dLn l, dRu r]) ?_ (e_law_shows hf)) rfl (fun s => rfl) (fun s => rfl)
          generalize dL L = zl at hxl ⊢
          simp [hxl]
        have heq := eq_sh (showsF n cs l r (tickF 0 bs r.g))
        have g5 : t__law_is_full_5 [.va (film n cs), .va (dL L), .va (dRu r), .va (.int f), .va (.int la), .va (.tup ds), .va (.int (tickF 0 bs r.g)), j7', j8', j9', .un, .un] = .rt (.bl (showsF n cs l r (tickF 0 bs r.g)).isEmpty) [.va (film n cs), .va (dL L), .va (dRu r), .va (.int f), .va (.int la), .va (.tup ds), .va (.int (tickF 0 bs r.g)), j7', j8', j9', .un, .un] := by
          unfold t__law_is_full_5
          generalize (showsF n cs l r (tickF 0 bs r.g)).map dSh = z at hc3 heq
          generalize c__law_is_full_3 = c3 at hc3 ⊢
          simp [hc3, heq]
        refine ⟨(showsF n cs l r (tickF 0 bs r.g)).isEmpty, ?_, fin ((seq_nx g1).trans ((seq_nx g2).trans ((seq_nx g3).trans ((seq_nx (g4.trans e5)).trans g5))))⟩
        have hfe : (showsF n cs l r (tickF 0 bs r.g)).isEmpty = true ↔ firstS n cs l r (tickOf bs r.g) = none := by
          have e : tickOf bs r.g = tickF 0 bs r.g := rfl
          rw [e]
          unfold firstS
          rw [List.isEmpty_iff, List.head?_eq_none_iff]
        rw [hfe]
        constructor
        · intro h
          exact ⟨f, la, bs, l, rfl, rfl, by rw [e1], hfl, hLa, by rw [← hdl, e1, List.length_map], e2, e3, h⟩
        · rintro ⟨f', la', bs', l', q1, q2, q3, _, q4, _, _, _, h⟩
          injection q1 with q1
          injection q2 with q2
          injection q3 with q3
          have hf' : f' = f := by omega
          have hl' : la' = la := by omega
          subst hf' hl'
          rw [e1] at q3
          have hbb := map_int_inj _ _ q3
          subst hbb
          rw [hLa] at q4
          cases q4
          exact h
      · refine ⟨false, ⟨fun h => (Bool.false_ne_true h).elim, ?_⟩, fin ((seq_nx g1).trans ((seq_nx g2).trans ((seq_nx g3).trans (rt_seq (g4.trans e2)))))⟩
        rintro ⟨f', la', bs', l', q1, q2, q3, _, _, _, q5, q6, _⟩
        injection q1 with q1
        injection q3 with q3
        have hf' : f' = f := by omega
        subst hf'
        exact (e1 ⟨bs', q3, q5, q6⟩).elim
    · have g2 : t__law_is_full_2 [.va (film n cs), .va (dL L), .va (dRu r), .va (.int f), .va (.int la), .va c, .un, .un, .un, .un, .un, .un] = .rt (.bl false) [.va (film n cs), .va (dL L), .va (dRu r), .va (.int f), .va (.int la), .va c, .un, .un, .un, .un, .un, .un] := by
        unfold t__law_is_full_2
        generalize film n cs = zf
        generalize dL L = zl
        generalize dRu r = zr
        cases c with
        | tup ds =>
          have h1 : ((ds.length : Int) == (la : Int) - f) = false := beq_eq_false_iff_ne.mpr fun e => hc ⟨ds, rfl, by omega⟩
          simp [h1]
        | _ => simp
      refine ⟨false, ⟨fun h => (Bool.false_ne_true h).elim, ?_⟩, fin ((seq_nx g1).trans (rt_seq g2))⟩
      rintro ⟨f', la', bs', l', q1, q2, q3, _, _, q5, _⟩
      injection q1 with q1
      injection q2 with q2
      exact (hc ⟨_, q3, by rw [List.length_map, q5]; omega⟩).elim
  · have g1 : t__law_is_full_1 [.va (film n cs), .va (dL L), .va (dRu r), .va a, .va b, .va c, .un, .un, .un, .un, .un, .un] = .rt (.bl false) [.va (film n cs), .va (dL L), .va (dRu r), .va a, .va b, .va c, .un, .un, .un, .un, .un, .un] := by
      unfold t__law_is_full_1
      by_cases hint : ∃ i j : Int, a = .int i ∧ b = .int j
      · obtain ⟨i, j, rfl, rfl⟩ := hint
        have aa : dAll [.lst (([D.int i, D.int j] : List D).map fun d => D.bl (isI d))] = some (.bl true) := aa
        generalize ([D.int i, D.int j] : List D).map (fun d => D.bl (isI d)) = y at cc aa
        generalize c__law_is_full_1 = c1 at cc ⊢
        generalize film n cs = zf at cc ⊢
        generalize dL L = zl at cc hlL ⊢
        generalize dRu r = zr at cc ⊢
        by_cases i1 : 0 ≤ i
        · by_cases i2 : i ≤ j
          · have i3 : ¬ j < L.length := fun h => hab ⟨i.toNat, j.toNat, by congr 1; omega, by congr 1; omega, by omega, by omega⟩
            simp [cc, aa, hlL, i1, i2, i3]
          · simp [cc, aa, hlL, i1, i2]
        · simp [cc, aa, hlL, i1]
      · have hf : ([a, b] : List D).all isI = false := by
          cases a with
          | int i =>
            cases b with
            | int j => exact (hint ⟨i, j, rfl, rfl⟩).elim
            | _ => rfl
          | _ => rfl
        rw [hf] at aa
        generalize ([a, b] : List D).map (fun d => D.bl (isI d)) = y at cc aa
        generalize c__law_is_full_1 = c1 at cc ⊢
        generalize film n cs = zf at cc ⊢
        generalize dL L = zl at cc ⊢
        generalize dRu r = zr at cc ⊢
        simp [cc, aa]
    refine ⟨false, ⟨fun h => (Bool.false_ne_true h).elim, ?_⟩, fin (rt_seq g1)⟩
    rintro ⟨f', la', bs', l', q1, q2, _, q3, q4, _⟩
    exact (hab ⟨f', la', q1, q2, q3, (List.getElem?_eq_some_iff.mp q4).1⟩).elim
end My
namespace My
open PySem PySem.Spec PyProof.Rows L2 RT
variable {n : Int} {cs : List Int} {l : Ln} {r : Ru} {t : Int} {L : List Ln}
theorem eq_tup0 {ds : List D} (h : SeqAt.shaped (dP (.tup ds)) = true) : dEq (.tup ds) (.tup []) = some (.bl ds.isEmpty) := by
  show (eqD _ _).map _ = _
  unfold eqD
  rw [if_pos ⟨h, by decide⟩]
  cases ds with
  | nil => rfl
  | cons n ns => rfl
theorem e_law_is_due (hf : OkF n cs) (hr : OkR r) (hL : OkL n L) (v : D) (hv : HV v) : ∃ k : Bool, (k = true ↔ IsDue n cs r L v) ∧ F__law_is_due [.va (film n cs), .va (dL L), .va (dRu r), .va v] = .ok (.bl k, [.va (film n cs), .va (dL L), .va (dRu r), .va v]) := by
  have fin : ∀ {k : Bool}, g__law_is_due [.va (film n cs), .va (dL L), .va (dRu r), .va v] = .rt (.bl k) [.va (film n cs), .va (dL L), .va (dRu r), .va v] → F__law_is_due [.va (film n cs), .va (dL L), .va (dRu r), .va v] = .ok (.bl k, [.va (film n cs), .va (dL L), .va (dRu r), .va v]) := fun {k} h => by
    have h5 : g__law_is_due ([.va (film n cs), .va (dL L), .va (dRu r), .va v] ++ List.replicate 0 .un) = _ := h
    exact call_of rfl h5 rfl
  by_cases hs : ∃ s rs, v = .tup (.str s :: rs)
  · obtain ⟨s, rs, rfl⟩ := hs
    have heq := eq_tup0 hv.sh
    have heq : dEq (.tup (.str s :: rs)) (.tup []) = some (.bl false) := heq
    have hx0 : dIx (.tup (.str s :: rs)) (.int 0) = some (.str s) := by
      rw [r_ixT]
      have : ixN (D.str s :: rs).length 0 = some 0 := by
        unfold ixN
        rw [if_pos (by omega), if_pos (by simp)]
        rfl
      rw [this]
      rfl
    have hln : dLen [.tup (.str s :: rs)] = some (.int ((rs.length : Int) + 1)) := by rw [r_lenT, List.length_cons]; congr 2
    have hit : dIsi "tuple" (.tup (.str s :: rs)) = some (.bl true) := by simp
    have g1 : t__law_is_due_1 [.va (film n cs), .va (dL L), .va (dRu r), .va (.tup (.str s :: rs))] = .nx [.va (film n cs), .va (dL L), .va (dRu r), .va (.tup (.str s :: rs))] := by
      unfold t__law_is_due_1
      generalize film n cs = zf
      generalize dL L = zl
      generalize dRu r = zr
      generalize D.tup (.str s :: rs) = z at heq hx0 hit ⊢
      simp [heq, hx0, hit]
    have n1 : ("plan" : Str) ≠ "full" := by decide
    by_cases hp : s = "plan"
    · subst hp
      by_cases hl : ∃ b, rs = [b]
      · obtain ⟨b, rfl⟩ := hl
        have hz : Sz b := (hv.len _ rfl).2 b (by simp)
        obtain ⟨k, hk, hc⟩ := e_law_is_plan (n := n) (cs := cs) (r := r) (L := L) hf.len b hz
        have c : eCall F__law_is_plan (aCons (eSlot 0) (aCons (eSlot 1) (aCons (eSlot 2) (aCons (eOp dIx (eSlot 3) (eC (.int 1))) aNil)))) [.va (film n cs), .va (dL L), .va (dRu r), .va (.tup [.str "plan", b])] = .ok (.bl k, [.va (film n cs), .va (dL L), .va (dRu r), .va (.tup [.str "plan", b])]) := by
          refine eCall_eq (ds := [film n cs, dL L, dRu r, b]) ?_ hc
          simp [L2.ixN]
        have g2 : t__law_is_due_2 [.va (film n cs), .va (dL L), .va (dRu r), .va (.tup [.str "plan", b])] = .rt (.bl k) [.va (film n cs), .va (dL L), .va (dRu r), .va (.tup [.str "plan", b])] := by
          unfold t__law_is_due_2
          generalize eCall F__law_is_plan (aCons (eSlot 0) (aCons (eSlot 1) (aCons (eSlot 2) (aCons (eOp dIx (eSlot 3) (eC (.int 1))) aNil)))) = ce at c ⊢
          generalize film n cs = zf at c ⊢
          generalize dL L = zl at c ⊢
          generalize dRu r = zr at c ⊢
          simp [c, L2.ixN]
        refine ⟨k, hk.trans ⟨fun h => .inl ⟨b, rfl, h⟩, ?_⟩, fin ((seq_nx g1).trans (rt_seq g2))⟩
        rintro (⟨b', e, h⟩ | ⟨a', b', c', e, _⟩)
        · simp only [D.tup.injEq, List.cons.injEq, and_true, true_and] at e
          rw [e]; exact h
        · simp at e
      · have h2 : (((rs.length : Int) + 1) == 2) = false := beq_eq_false_iff_ne.mpr fun e => hl (by
          match rs, e with
          | [b], _ => exact ⟨b, rfl⟩
          | [], e => exact absurd e (by decide)
          | _ :: _ :: r', e => simp at e; omega)
        have g2 : t__law_is_due_2 [.va (film n cs), .va (dL L), .va (dRu r), .va (.tup (.str "plan" :: rs))] = .rt (.bl false) [.va (film n cs), .va (dL L), .va (dRu r), .va (.tup (.str "plan" :: rs))] := by
          unfold t__law_is_due_2
          generalize film n cs = zf
          generalize dL L = zl
          generalize dRu r = zr
          generalize D.tup (.str "plan" :: rs) = z at hx0 hln ⊢
          simp [hx0, hln, h2]
        refine ⟨false, ⟨fun h => (Bool.false_ne_true h).elim, ?_⟩, fin ((seq_nx g1).trans (rt_seq g2))⟩
        rintro (⟨b', e, h⟩ | ⟨a', b', c', e, _⟩)
        · simp only [D.tup.injEq, List.cons.injEq, true_and] at e
          exact (hl ⟨b', e⟩).elim
        · simp only [D.tup.injEq, List.cons.injEq, D.str.injEq] at e
          exact (n1 e.1).elim
    · have hsp : (s == "plan") = false := beq_eq_false_iff_ne.mpr hp
      have g2 : t__law_is_due_2 [.va (film n cs), .va (dL L), .va (dRu r), .va (.tup (.str s :: rs))] = .nx [.va (film n cs), .va (dL L), .va (dRu r), .va (.tup (.str s :: rs))] := by
        unfold t__law_is_due_2
        generalize film n cs = zf
        generalize dL L = zl
        generalize dRu r = zr
        generalize D.tup (.str s :: rs) = z at hx0 ⊢
        simp [hx0, hsp]
      by_cases hfu : s = "full"
      · subst hfu
        by_cases hl : ∃ a b c, rs = [a, b, c]
        · obtain ⟨a, b, c, rfl⟩ := hl
          have hz : Sz c := (hv.len _ rfl).2 c (by simp)
          obtain ⟨k, hk, hc⟩ := e_law_is_full (n := n) (cs := cs) (r := r) (L := L) hf hr hL a b c (fun ds e => (hz.one ds e).1)
          have cc : eCall F__law_is_full (aCons (eSlot 0) (aCons (eSlot 1) (aCons (eSlot 2) (aCons (eOp dIx (eSlot 3) (eC (.int 1))) (aCons (eOp dIx (eSlot 3) (eC (.int 2))) (aCons (eOp dIx (eSlot 3) (eC (.int 3))) aNil)))))) [.va (film n cs), .va (dL L), .va (dRu r), .va (.tup [.str "full", a, b, c])] = .ok (.bl k, [.va (film n cs), .va (dL L), .va (dRu r), .va (.tup [.str "full", a, b, c])]) := by
            refine eCall_eq (ds := [film n cs, dL L, dRu r, a, b, c]) ?_ hc
            simp [L2.ixN]
          have g3 : t__law_is_due_3 [.va (film n cs), .va (dL L), .va (dRu r), .va (.tup [.str "full", a, b, c])] = .rt (.bl k) [.va (film n cs), .va (dL L), .va (dRu r), .va (.tup [.str "full", a, b, c])] := by
            unfold t__law_is_due_3
            generalize eCall F__law_is_full (aCons (eSlot 0) (aCons (eSlot 1) (aCons (eSlot 2) (aCons (eOp dIx (eSlot 3) (eC (.int 1))) (aCons (eOp dIx (eSlot 3) (eC (.int 2))) (aCons (eOp dIx (eSlot 3) (eC (.int 3))) aNil)))))) = ce at cc ⊢
            generalize film n cs = zf at cc ⊢
            generalize dL L = zl at cc ⊢
            generalize dRu r = zr at cc ⊢
            simp [cc, L2.ixN]
          refine ⟨k, hk.trans ⟨fun h => .inr ⟨a, b, c, rfl, h⟩, ?_⟩, fin ((seq_nx g1).trans ((seq_nx g2).trans g3))⟩
          rintro (⟨b', e, h⟩ | ⟨a', b', c', e, h⟩)
          · simp at e
          · simp only [D.tup.injEq, List.cons.injEq, and_true, true_and] at e
            rw [e.1, e.2.1, e.2.2]; exact h
        · have h4 : (((rs.length : Int) + 1) == 4) = false := beq_eq_false_iff_ne.mpr fun e => hl (by
            match rs, e with
            | [a, b, c], _ => exact ⟨a, b, c, rfl⟩
            | [], e => exact absurd e (by decide)
            | [_], e => simp at e
            | [_, _], e => simp at e
            | _ :: _ :: _ :: _ :: r', e => simp at e; omega)
          have g3 : t__law_is_due_3 [.va (film n cs), .va (dL L), .va (dRu r), .va (.tup (.str "full" :: rs))] = .rt (.bl false) [.va (film n cs), .va (dL L), .va (dRu r), .va (.tup (.str "full" :: rs))] := by
            unfold t__law_is_due_3
            generalize film n cs = zf
            generalize dL L = zl
            generalize dRu r = zr
            generalize D.tup (.str "full" :: rs) = z at hx0 hln ⊢
            simp [hx0, hln, h4]
          refine ⟨false, ⟨fun h => (Bool.false_ne_true h).elim, ?_⟩, fin ((seq_nx g1).trans ((seq_nx g2).trans g3))⟩
          rintro (⟨b', e, h⟩ | ⟨a', b', c', e, _⟩)
          · simp only [D.tup.injEq, List.cons.injEq, D.str.injEq] at e
            exact (n1 e.1.symm).elim
          · simp only [D.tup.injEq, List.cons.injEq, true_and] at e
            exact (hl ⟨_, _, _, e⟩).elim
      · have hsf : (s == "full") = false := beq_eq_false_iff_ne.mpr hfu
        have g3 : t__law_is_due_3 [.va (film n cs), .va (dL L), .va (dRu r), .va (.tup (.str s :: rs))] = .rt (.bl false) [.va (film n cs), .va (dL L), .va (dRu r), .va (.tup (.str s :: rs))] := by
          unfold t__law_is_due_3
          generalize film n cs = zf
          generalize dL L = zl
          generalize dRu r = zr
          generalize D.tup (.str s :: rs) = z at hx0 ⊢
          simp [hx0, hsf]
        refine ⟨false, ⟨fun h => (Bool.false_ne_true h).elim, ?_⟩, fin ((seq_nx g1).trans ((seq_nx g2).trans g3))⟩
        rintro (⟨b', e, h⟩ | ⟨a', b', c', e, _⟩)
        · simp only [D.tup.injEq, List.cons.injEq, D.str.injEq] at e
          exact (hp e.1).elim
        · simp only [D.tup.injEq, List.cons.injEq, D.str.injEq] at e
          exact (hfu e.1).elim
  · have g1 : t__law_is_due_1 [.va (film n cs), .va (dL L), .va (dRu r), .va v] = .rt (.bl false) [.va (film n cs), .va (dL L), .va (dRu r), .va v] := by
      unfold t__law_is_due_1
      generalize film n cs = zf
      generalize dL L = zl
      generalize dRu r = zr
      cases v with
      | tup ds =>
        have heq := eq_tup0 hv.sh
        cases ds with
        | nil =>
          have heq : dEq (.tup []) (.tup []) = some (.bl true) := heq
          simp [heq]
        | cons x rs =>
          have heq : dEq (.tup (x :: rs)) (.tup []) = some (.bl false) := heq
          have hx0 : dIx (.tup (x :: rs)) (.int 0) = some x := by
            rw [r_ixT]
            have : ixN (x :: rs).length 0 = some 0 := by
              unfold ixN
              rw [if_pos (by omega), if_pos (by simp)]
              rfl
            rw [this]
            rfl
          have hit : dIsi "tuple" (.tup (x :: rs)) = some (.bl true) := by simp
          have hno : ∀ s, x ≠ .str s := fun s e => hs ⟨s, rs, by rw [e]⟩
          have hxs : dIsi "str" x = some (.bl false) := by
            cases x with
            | str s => exact (hno s rfl).elim
            | _ => simp
          clear hs
          generalize D.tup (x :: rs) = z at heq hx0 hit ⊢
          simp [heq, hx0, hit, hxs]
      | _ => simp
    refine ⟨false, ⟨fun h => (Bool.false_ne_true h).elim, ?_⟩, fin (rt_seq g1)⟩
    rintro (⟨b', e, h⟩ | ⟨a', b', c', e, _⟩)
    · exact (hs ⟨_, _, e⟩).elim
    · exact (hs ⟨_, _, e⟩).elim
theorem wrong_told : ∀ (L : List Ln) (t : Int) (p p' : Nat) (pv : Option Int), (gtold n cs r t p L).2 = none → (∀ o, pv = some o → o + r.g ≤ t) → wrongP n cs r pv p' L (gtold n cs r t p L).1 = none ∧ (gtold n cs r t p L).1.length = L.length
  | [], _, _, _, _, _, _ => ⟨by unfold wrongP; rfl, rfl⟩
  | l :: L, t, p, p', pv, h, hp => by
    unfold gtold at h ⊢
    cases hs : firstS n cs l r t with
    | none => rw [hs] at h; cases h
    | some s =>
      rw [hs] at h
      simp only at h ⊢
      have sb := shows_bd (firstS_mem hs)
      obtain ⟨h1, h2⟩ := wrong_told L (s.2 + r.g) (p + 1) (p' + 1) (some s.2) h (fun o e => by cases e; exact Int.le_refl _)
      refine ⟨?_, by rw [List.length_cons, h2, List.length_cons]⟩
      unfold wrongP
      have hn : pv.any (fun o => decide (s.1 < o + r.g)) = false := by
        cases pv with
        | none => rfl
        | some o =>
          have := hp o rfl
          show decide (s.1 < o + r.g) = false
          exact decide_eq_false (by omega)
      simp only [sb.2.2.2.2.2, if_true, hn, Bool.false_eq_true, if_false]
      exact h1
theorem told_bd (hf : OkF n cs) : ∀ (L : List Ln) (t : Int) (p : Nat), (∀ l ∈ L, 1 ≤ l.2.2) → ∀ s ∈ (gtold n cs r t p L).1, 0 ≤ s.1 ∧ s.1 < s.2 ∧ s.2 ≤ 400
  | [], _, _, _, s, h => nomatch h
  | l :: L, t, p, hl, s, h => by
    unfold gtold at h
    cases hs : firstS n cs l r t with
    | none => rw [hs] at h; cases h
    | some s0 =>
      rw [hs] at h
      simp only at h
      rcases List.mem_cons.mp h with e | e
      · rw [e]
        have sb := shows_bd (firstS_mem hs)
        have := hl l List.mem_cons_self
        have := hf.n2
        omega
      · exact told_bd hf L _ _ (fun x hx => hl x (List.mem_cons_of_mem _ hx)) s e
theorem full_told : ∀ (L : List Ln) (t : Int) (p q : Nat), (gtold n cs r t p L).2 = some q → ∃ j l, q = p + j ∧ L[j]? = some l ∧ (gtold n cs r t p L).1.length = j ∧ shownB n cs r t L ((gtold n cs r t p L).1.map (·.2)) = true ∧ firstS n cs l r (tickF t ((gtold n cs r t p L).1.map (·.2)) r.g) = none
  | [], _, _, _, h => by cases h
  | l :: L, t, p, q, h => by
    unfold gtold at h ⊢
    cases hs : firstS n cs l r t with
    | none =>
      rw [hs] at h
      simp only at h ⊢
      cases h
      exact ⟨0, l, rfl, rfl, rfl, by unfold shownB; rfl, hs⟩
    | some s =>
      rw [hs] at h
      simp only at h ⊢
      obtain ⟨j, l', h1, h2, h3, h4, h5⟩ := full_told L (s.2 + r.g) (p + 1) q h
      refine ⟨j + 1, l', by omega, by simpa using h2, by rw [List.length_cons, h3], ?_, ?_⟩
      · rw [List.map_cons, shownB, h4, hs]
        simp
      · rw [List.map_cons, tickF_cons]
        exact h5
theorem paper_due (hf : OkF n cs) (hL : OkL n L) : IsDue n cs r L (paperD n cs r L) := by
  unfold paperD
  have hv := told_bd (r := r) hf L 0 0 (fun l hl => (hL.each l hl).2.2.2.1)
  cases hq : (gtold n cs r 0 0 L).2 with
  | none =>
    obtain ⟨h1, h2⟩ := wrong_told L 0 0 0 none hq (fun o e => nomatch e)
    exact .inl ⟨_, rfl, _, rfl, h2, hv, h1⟩
  | some q =>
    obtain ⟨j, l, h1, h2, h3, h4, h5⟩ := full_told L 0 0 q hq
    rw [Nat.zero_add] at h1
    subst h1
    refine .inr ⟨_, _, _, rfl, 0, q, (gtold n cs r 0 0 L).1.map (fun (s : Int × Int) => s.2), l, rfl, rfl, ?_, Nat.zero_le _, h2, by rw [List.length_map, h3]; rfl, fun x hx => ?_, by rw [List.drop_zero]; exact h4, h5⟩
    · rw [List.map_map]; rfl
    · obtain ⟨s, hs, rfl⟩ := List.mem_map.mp hx
      have := hv s hs
      omega
end My
namespace My
open PySem PySem.Spec PyProof.Rows L2 RT
variable {n : Int} {cs : List Int} {l : Ln} {r : Ru} {t : Int} {L : List Ln} {ds : List D}
mutual
def okD : D → Bool
  | .tup ds => decide (ds.length ≤ 1000) && okDs ds
  | .lst ds => decide (ds.length ≤ 1000) && okDs ds
  | .str x => PyData.strOk x
  | _ => true
def okDs : List D → Bool
  | [] => true
  | d :: ds => okD d && okDs ds
end
mutual
theorem ok_lay : ∀ d : D, okD d = true → (dP d).canLay0 = true
  | .non, _ => rfl
  | .bl _, _ => rfl
  | .int _, _ => rfl
  | .str x, h => by simpa [okD, dP, PyData.canLay0] using h
  | .tup ds, h => by
    simp only [okD, Bool.and_eq_true] at h
    simpa [dP, PyData.canLay0] using ok_lays ds h.2
  | .lst ds, h => by
    simp only [okD, Bool.and_eq_true] at h
    simpa [dP, PyData.canLay0] using ok_lays ds h.2
theorem ok_lays : ∀ ds : List D, okDs ds = true → PyData.canLayAll0 (dPs ds) = true
  | [], _ => rfl
  | d :: ds, h => by
    simp only [okDs, Bool.and_eq_true] at h
    simp [dPs, PyData.canLayAll0, ok_lay d h.1, ok_lays ds h.2]
end
theorem okDs_mem : ∀ {ds : List D} {d : D}, okDs ds = true → d ∈ ds → okD d = true
  | _ :: _, d, h, hm => by
    simp only [okDs, Bool.and_eq_true] at h
    rcases List.mem_cons.mp hm with e | e
    · rw [e]; exact h.1
    · exact okDs_mem h.2 e
theorem ok_len {ds : List D} (h : okD (.tup ds) = true) : ds.length ≤ 1000 ∧ okDs ds = true := by
  simp only [okD, Bool.and_eq_true, decide_eq_true_eq] at h
  exact h
theorem HV.of {v : D} (h : okD v = true) (hd : (dP v).depth ≤ 60) : HV v := by
  refine ⟨?_, fun ds e => ?_⟩
  · simp only [SeqAt.shaped, ok_lay v h, Bool.true_and, decide_eq_true_eq]
    omega
  · subst e
    obtain ⟨h1, h2⟩ := ok_len h
    refine ⟨h1, fun b hb => ⟨fun es e => ?_⟩⟩
    subst e
    obtain ⟨h3, h4⟩ := ok_len (okDs_mem h2 hb)
    refine ⟨h3, fun d hd gs e => ?_⟩
    subst e
    exact (ok_len (okDs_mem h4 hd)).1
theorem ok_ints : ∀ is : List Int, okDs (is.map D.int) = true ∧ PyData.depthAll (dPs (is.map D.int)) = 0
  | [] => ⟨rfl, rfl⟩
  | i :: is => by
    obtain ⟨h1, h2⟩ := ok_ints is
    rw [List.map_cons]
    exact ⟨by simp [okDs, okD, h1], by simp [dPs, dP, PyData.depthAll, PyData.depth, h2]⟩
theorem ok_shs : ∀ P : List (Int × Int), okDs (P.map dSh) = true ∧ PyData.depthAll (dPs (P.map dSh)) ≤ 1
  | [] => ⟨rfl, by simp [dPs, PyData.depthAll]⟩
  | p :: P => by
    obtain ⟨h1, h2⟩ := ok_shs P
    rw [List.map_cons]
    exact ⟨by simp [okDs, okD, dSh, h1], by simp [dPs, dP, dSh, PyData.depthAll, PyData.depth]; omega⟩
theorem ok_app : ∀ xs ys : List D, okDs (xs ++ ys) = (okDs xs && okDs ys) ∧ PyData.depthAll (dPs (xs ++ ys)) = max (PyData.depthAll (dPs xs)) (PyData.depthAll (dPs ys))
  | [], ys => by simp [okDs, dPs, PyData.depthAll]
  | x :: xs, ys => by
    obtain ⟨h1, h2⟩ := ok_app xs ys
    rw [List.cons_append]
    exact ⟨by simp only [okDs, h1, Bool.and_assoc], by simp only [dPs, PyData.depthAll, h2]; omega⟩
theorem ok_bls (k : Nat) : okDs (List.replicate k (.bl true)) = true ∧ PyData.depthAll (dPs (List.replicate k (.bl true))) = 0 := by
  induction k with
  | zero => exact ⟨rfl, rfl⟩
  | succ k ih =>
    rw [List.replicate_succ]
    exact ⟨by simp [okDs, okD, ih.1], by simp [dPs, dP, PyData.depthAll, PyData.depth, ih.2]⟩
theorem cut_sh (P : List (Int × Int)) (x y : Option Int) : ∃ Q : List (Int × Int), RT.cutD (P.map dSh) x y = Q.map dSh ∧ Q.length ≤ P.length := by
  unfold RT.cutD
  simp only [← List.map_drop, ← List.map_take]
  refine ⟨_, rfl, ?_⟩
  rw [List.length_take, List.length_drop]
  omega
theorem mulTr (k : Nat) (hk : k ≤ 100) : dMulA (.tup [.bl true]) (.int (k : Int)) = some (.tup (List.replicate k (.bl true))) := by
  show (if _ then some (D.tup (List.replicate _ [D.bl true]).flatten) else none) = _
  rw [if_pos ⟨by omega, by omega, by simp⟩, Int.toNat_natCast]
  congr 2
  induction k with
  | zero => rfl
  | succ k ih => rw [List.replicate_succ, List.flatten_cons, ih (by omega), List.replicate_succ]; rfl
theorem ok_words : PyData.strOk ("plan" : Str) = true ∧ PyData.strOk ("full" : Str) = true := by decide +kernel
theorem ix_p0 {P : D} : dIx (.tup [.str "plan", P]) (.int 0) = some (.str "plan") := rfl
def VS (T : D) (b6 b7 b8 b9 : B) (ds : List D) (L : List Ln) (x y : Int) : List B := [.ow true ds, .va T, .va (dL L), .va (.int (L.length : Int)), .va (.int x), .va (.int y), b6, b7, b8, b9, .un, .un, .un, .un, .un]
theorem v1 {T : D} : t__law_values_1 [.ow true ds, .va T, .va (dL L), .un, .un, .un, .un, .un, .un, .un, .un, .un, .un, .un, .un] = .nx [.ow true ds, .va T, .va (dL L), .va (.int (L.length : Int)), .un, .un, .un, .un, .un, .un, .un, .un, .un, .un, .un] := by
  have hlL : dLen [dL L] = some (.int L.length) := by unfold dL; rw [r_lenT, List.length_map]
  unfold t__law_values_1
  generalize dL L = zl at hlL ⊢
  simp [hlL]
theorem v2 {T : D} {m : Nat} (hl : L.length ≤ 30) (hp : PotOk m ds) (hm : m + 100 < 2 ^ 40) : ∃ (x y : Int) (ds' : List D), 0 ≤ x ∧ x ≤ L.length ∧ 0 ≤ y ∧ y ≤ L.length ∧ PotOk (m + 2) ds' ∧ t__law_values_2 [.ow true ds, .va T, .va (dL L), .va (.int (L.length : Int)), .un, .un, .un, .un, .un, .un, .un, .un, .un, .un, .un] = .nx (VS T .un .un .un .un ds' L x y) := by
  obtain ⟨x, ds1, x1, x2, p1, f1⟩ := e_take (u := (L.length : Int) + 1) hp (by omega) (by omega) (by omega)
  obtain ⟨y, ds2, y1, y2, p2, f2⟩ := e_take (u := (L.length : Int) + 1) p1 (by omega) (by omega) (by omega)
  refine ⟨x, y, ds2, x1, by omega, y1, by omega, p2, ?_⟩
  have c1 := eCallB_eq (Fn := F__law_take) (a := (aCons (eOp dAdd (eSlot 3) (eC (.int 1))) aNil)) (ρ := [.ow true ds, .va T, .va (dL L), .va (.int (L.length : Int)), .un, .un, .un, .un, .un, .un, .un, .un, .un, .un, .un]) (j := 0) rfl rfl f1
  have c2 := eCallB_eq (Fn := F__law_take) (a := (aCons (eOp dAdd (eSlot 3) (eC (.int 1))) aNil)) (ρ := [.ow true ds1, .va T, .va (dL L), .va (.int (L.length : Int)), .un, .un, .un, .un, .un, .un, .un, .un, .un, .un, .un]) (j := 0) rfl rfl f2
  unfold t__law_values_2
  generalize (eCallB 0 F__law_take (aCons (eOp dAdd (eSlot 3) (eC (.int 1))) aNil)) = ce at c1 c2 ⊢
  unfold VS
  generalize dL L = zl at c1 c2 ⊢
  generalize (L.length : Int) = k at c1 c2 ⊢
  have c1 : ce [.ow true ds, .va T, .va zl, .va (.int k), .un, .un, .un, .un, .un, .un, .un, .un, .un, .un, .un] = .ok (.int x, [.ow true ds1, .va T, .va zl, .va (.int k), .un, .un, .un, .un, .un, .un, .un, .un, .un, .un, .un]) := c1
  have c2 : ce [.ow true ds1, .va T, .va zl, .va (.int k), .un, .un, .un, .un, .un, .un, .un, .un, .un, .un, .un] = .ok (.int y, [.ow true ds2, .va T, .va zl, .va (.int k), .un, .un, .un, .un, .un, .un, .un, .un, .un, .un, .un]) := c2
  simp [c1, c2]
theorem v3 {T : D} {m : Nat} {x y : Int} (hx : 0 ≤ x) (hy : y ≤ 100) (hp : PotOk m ds) (hm : m + 300 < 2 ^ 40) : ∃ (bs : List Int) (ds' : List D), bs.length ≤ 100 ∧ PotOk (m + 100) ds' ∧ t__law_values_3 (VS T .un .un .un .un ds L x y) = .nx (VS T (.va (.tup (bs.map D.int))) .un .un .un ds' L x y) := by
  obtain ⟨k, hk⟩ : ∃ k : Nat, (if y - x > 0 then y - x else 0) = k := ⟨(if y - x > 0 then y - x else 0).toNat, by split <;> omega⟩
  have hk2 : k ≤ 100 := by split at hk <;> omega
  obtain ⟨bs, ds2, q1, q2, q3, q4⟩ := oLc_st (it := (iRange1 (eBlt dMaxB (aCons (eC (.int 0)) (aCons (eOp dSub (eSlot 5) (eSlot 4)) aNil))))) (tg := gN 10) (te := (eBlt dInt (aCons (eCallB 0 F__law_take (aCons (eC (.int 20)) aNil)) aNil))) (vs := [10])
    (ρ := VS T .un .un .un .un ds L x y) (ρ1 := VS T .un .un .un .un ds L x y)
    (fun j s => PotOk (m + j) s) (fun s => VS T .un .un .un .un s L x y) (fun (i : Nat) => D.int (i : Int)) D.int (fun _ _ => True) (List.range k) 0 ds (by simpa using hp)
    (it_goF (by omega) (by rw [← hk]; simp [VS])) (by rfl) (by rfl) (by
      intro a _ j s _ hj hI
      rw [List.length_range] at hj
      obtain ⟨b, s', b1, b2, p2, f2⟩ := e_take (u := 20) hI (by omega) (by decide) (by decide)
      refine ⟨[(10, .int (a : Int))], b, s', [.ow true s', .va T, .va (dL L), .va (.int (L.length : Int)), .va (.int x), .va (.int y), .un, .un, .un, .un, .va (.int (a : Int)), .un, .un, .un, .un], rfl, ?_, rfl, by simpa [Nat.add_assoc] using p2, trivial⟩
      have c := eCallB_eq (Fn := F__law_take) (a := (aCons (eC (.int 20)) aNil)) (ρ := putB (VS T .un .un .un .un s L x y) [(10, .int (a : Int))]) (j := 0) rfl rfl f2
      simp only [r_eBlt, r_aCons, r_aNil, c, Rs.ok_bind, r_intI, ofO_some]
      rfl) (by rw [List.length_range]; exact szn (by omega))
  refine ⟨bs, ds2, by rw [q3, List.length_range]; exact hk2, q2.mono (by rw [List.length_range]; omega), ?_⟩
  have q1 : c__law_values_1 (VS T .un .un .un .un ds L x y) = .ok (bs.map D.int, VS T .un .un .un .un ds2 L x y) := by
    unfold c__law_values_1
    rw [q1]
    rfl
  unfold t__law_values_3
  rw [r_sSet, r_eBlt, r_aCons, r_eO, q1]
  rfl
theorem v4 {T : D} {m : Nat} {x y : Int} {b6 : B} (hl : L.length ≤ 30) (hp : PotOk m ds) (hm : m + 300 < 2 ^ 40) : ∃ (P : List (Int × Int)) (ds' : List D), P.length ≤ 30 ∧ PotOk (m + 100) ds' ∧ t__law_values_4 (VS T b6 .un .un .un ds L x y) = .nx (VS T b6 (.va (.tup (P.map dSh))) .un .un ds' L x y) := by
  obtain ⟨bs, ds2, q1, q2, q3, q4⟩ := oLc_st (it := (iSeq (eSlot 2))) (tg := gN 11) (te := (eTup (aCons (eBlt dInt (aCons (eOp dIx (eSlot 11) (eC (.int 0))) aNil)) (aCons (eBlt dInt (aCons (eOp dAdd (eOp dAdd (eOp dIx (eSlot 11) (eC (.int 0))) (eOp dIx (eSlot 11) (eC (.int 2)))) (eCallB 0 F__law_take (aCons (eC (.int 2)) aNil))) aNil)) aNil)))) (vs := [11])
    (ρ := VS T b6 .un .un .un ds L x y) (ρ1 := VS T b6 .un .un .un ds L x y)
    (fun j s => PotOk (m + j) s) (fun s => VS T b6 .un .un .un s L x y) dLn dSh (fun _ _ => True) L 0 ds (by simpa using hp) rfl (by rfl) (by rfl) (by
      intro a _ j s _ hj hI
      obtain ⟨b, s', b1, b2, p2, f2⟩ := e_take (u := 2) hI (by omega) (by decide) (by decide)
      refine ⟨[(11, dLn a)], (a.1, a.1 + a.2.2 + b), s', [.ow true s', .va T, .va (dL L), .va (.int (L.length : Int)), .va (.int x), .va (.int y), b6, .un, .un, .un, .un, .va (dLn a), .un, .un, .un], rfl, ?_, rfl, by simpa [Nat.add_assoc] using p2, trivial⟩
      have c := eCallB_eq (Fn := F__law_take) (a := (aCons (eC (.int 2)) aNil)) (ρ := putB (VS T b6 .un .un .un s L x y) [(11, dLn a)]) (j := 0) rfl rfl f2
      have h0 : dIx (dLn a) (.int 0) = some (.int a.1) := rfl
      have h2 : dIx (dLn a) (.int 2) = some (.int a.2.2) := rfl
      have s11 : (putB (VS T b6 .un .un .un s L x y) [(11, dLn a)])[11]? = some (.va (dLn a)) := rfl
      have e5 : (putB (VS T b6 .un .un .un s L x y) [(11, dLn a)]).set 0 (.ow true s') = [.ow true s', .va T, .va (dL L), .va (.int (L.length : Int)), .va (.int x), .va (.int y), b6, .un, .un, .un, .un, .va (dLn a), .un, .un, .un] := rfl
      rw [e5] at c
      generalize eCallB 0 F__law_take (aCons (eC (.int 2)) aNil) = ce at c ⊢
      generalize putB (VS T b6 .un .un .un s L x y) [(11, dLn a)] = ρ at c s11 ⊢
      unfold dSh
      generalize dLn a = za at h0 h2 c s11 ⊢
      generalize dL L = zl at c ⊢
      simp [s11, h0, h2, c]) (by exact szn (by omega))
  refine ⟨bs, ds2, by omega, q2.mono (by omega), ?_⟩
  have q1 : c__law_values_2 (VS T b6 .un .un .un ds L x y) = .ok (bs.map dSh, VS T b6 .un .un .un ds2 L x y) := by
    unfold c__law_values_2
    rw [q1]
    rfl
  unfold t__law_values_4
  rw [r_sSet, r_eBlt, r_aCons, r_eO, q1]
  rfl
end My
namespace My
open PySem PySem.Spec PyProof.Rows L2 RT
variable {n : Int} {cs : List Int} {l : Ln} {r : Ru} {t : Int} {L : List Ln} {ds : List D}
def vals9 (ts : List D) (P : List (Int × Int)) : List D := [.tup ts, .lst ts, .tup (ts ++ [.int 0]), .tup (ts.take 1), .tup [], .non, .tup [.str "plan", .tup (P.map dSh)], .tup [.str "plan", .lst (P.map dSh)], .tup [.str "plan", .tup (RT.cutD (P.map dSh) none (some (-1)))]]
def vals4 (bs : List Int) (many : Nat) (x y : Int) : List D := [.tup [.str "full", .int x, .int y, .tup (bs.map D.int)], .tup [.str "full", .int y, .int y, .tup []], .tup [.str "full", .int x, .int y], .tup [.str "plan", .tup (List.replicate many (.bl true))]]
theorem s9le : (9 : Nat) ≤ sizeLine := by decide
theorem v5 {ts : List D} {P : List (Int × Int)} {b6 : B} {x y : Int} (hts : ts.length ≤ 10) : t__law_values_5 (VS (.tup ts) b6 (.va (.tup (P.map dSh))) .un .un ds L x y) = .nx (VS (.tup ts) b6 (.va (.tup (P.map dSh))) (.ow false (vals9 ts P)) .un ds L x y) := by
  have h1 : ts.length + 1 ≤ sizeLine := szn (by omega)
  have ct := cut_t1 ts
  unfold VS vals9 t__law_values_5
  generalize dL L = zl
  generalize hP : P.map dSh = zp
  generalize hC : RT.cutD zp none (some (-1)) = zc
  simp [dAdd, h1, hC, s9le]
theorem v6 {T : D} {bs : List Int} {b7 : B} {x y : Int} {V : List D} (hV : V.length ≤ 100) (hl : L.length ≤ 30) : t__law_values_6 (VS T (.va (.tup (bs.map D.int))) b7 (.ow false V) .un ds L x y) = .nx (VS T (.va (.tup (bs.map D.int))) b7 (.ow false (V ++ vals4 bs L.length x y)) .un ds L x y) := by
  have h1 : V.length + 4 ≤ sizeLine := szn (by omega)
  have hm := mulTr L.length (by omega)
  unfold VS vals4 t__law_values_6
  generalize dL L = zl
  generalize bs.map D.int = zb
  generalize List.replicate L.length (D.bl true) = zr at hm ⊢
  generalize (L.length : Int) = k at hm ⊢
  simp [eExt, hm, h1]
def vals3P (Q : List (Int × Int)) : List D := [.tup [.str "plan", .tup (Q.map fun s => dSh (s.1, s.2 + 1))], .tup [.str "plan", .tup (Q.map fun s => dSh (s.1 + 1, s.2 + 1))], .tup [.str "plan", .tup (Q.map dSh).reverse]]
theorem v7p {Q : List (Int × Int)} {b6 b7 : B} {x y : Int} {V : List D} (hV : V.length ≤ 100) (hQ : Q.length ≤ 100) : t__law_values_7 (VS (.tup [.str "plan", .tup (Q.map dSh)]) b6 b7 (.ow false V) .un ds L x y) = .nx (VS (.tup [.str "plan", .tup (Q.map dSh)]) b6 b7 (.ow false (V ++ vals3P Q)) .un ds L x y) := by
  have h1 : V.length + 3 ≤ sizeLine := szn (by omega)
  have c4 : c__law_values_4 (VS (.tup [.str "plan", .tup (Q.map dSh)]) b6 b7 (.ow false V) .un ds L x y) = .ok (Q.map (fun s => dSh (s.1, s.2 + 1)), VS (.tup [.str "plan", .tup (Q.map dSh)]) b6 b7 (.ow false V) .un ds L x y) := by
    unfold c__law_values_4
    refine oLc_map Q dSh _ rfl rfl ?_ (szn (by omega))
    intro s _
    exact ⟨[(12, .int s.1), (13, .int s.2)], rfl, by simp, by simp [VS, dSh]⟩
  have c3 : c__law_values_3 (VS (.tup [.str "plan", .tup (Q.map dSh)]) b6 b7 (.ow false V) .un ds L x y) = .ok (Q.map (fun s => dSh (s.1 + 1, s.2 + 1)), VS (.tup [.str "plan", .tup (Q.map dSh)]) b6 b7 (.ow false V) .un ds L x y) := by
    unfold c__law_values_3
    refine oLc_map Q dSh _ rfl rfl ?_ (szn (by omega))
    intro s _
    exact ⟨[(12, .int s.1), (13, .int s.2)], rfl, by simp, by simp [VS, dSh]⟩
  unfold vals3P t__law_values_7
  generalize Q.map (fun s => dSh (s.1, s.2 + 1)) = q4 at c4 ⊢
  generalize Q.map (fun s => dSh (s.1 + 1, s.2 + 1)) = q3 at c3 ⊢
  generalize c__law_values_4 = cc4 at c4 ⊢
  generalize c__law_values_3 = cc3 at c3 ⊢
  unfold VS at c3 c4 ⊢
  generalize dL L = zl at c3 c4 ⊢
  generalize Q.map dSh = zq at c3 c4 ⊢
  generalize (L.length : Int) = k at c3 c4 ⊢
  simp [eExt, c3, c4, h1, L2.ixN]
def vals5F (q : Int) (b : List Int) : List D := [.tup [.str "full", .int 0, .int q, .tup ((b.map fun i => if i - 1 > 0 then i - 1 else 0).map D.int)], .tup [.str "full", .int 0, .int q, .tup ((b.map (· + 1)).map D.int)], .tup [.str "full", .int 0, .int q, .lst (b.map D.int)], .tup [.str "full", .bl true, .int q, .tup (b.map D.int)], .tup [.str "full", .int q, .int q, .tup []]]
theorem v7f {q : Int} {b : List Int} {b6 b7 : B} {x y : Int} {V : List D} (hV : V.length ≤ 100) (hQ : b.length ≤ 100) : t__law_values_7 (VS (.tup [.str "full", .int 0, .int q, .tup (b.map D.int)]) b6 b7 (.ow false V) .un ds L x y) = .nx (VS (.tup [.str "full", .int 0, .int q, .tup (b.map D.int)]) b6 b7 (.ow false (V ++ vals5F q b)) (.va (.tup ((b.map fun i => if i - 1 > 0 then i - 1 else 0).map D.int))) ds L x y) := by
  have h1 : V.length + 3 ≤ sizeLine := szn (by omega)
  have h2 : V.length + 5 ≤ sizeLine := szn (by omega)
  have h2' : V.length + 3 + 2 ≤ sizeLine := szn (by omega)
  have c5 : c__law_values_5 (VS (.tup [.str "full", .int 0, .int q, .tup (b.map D.int)]) b6 b7 (.ow false V) .un ds L x y) = .ok ((b.map fun i => if i - 1 > 0 then i - 1 else 0).map D.int, VS (.tup [.str "full", .int 0, .int q, .tup (b.map D.int)]) b6 b7 (.ow false V) .un ds L x y) := by
    unfold c__law_values_5
    rw [List.map_map]
    refine oLc_map b D.int _ rfl rfl ?_ (szn (by omega))
    intro s _
    exact ⟨[(14, .int s)], rfl, by simp, by simp [VS]⟩
  have c6 : ∀ b9 : B, c__law_values_6 (VS (.tup [.str "full", .int 0, .int q, .tup (b.map D.int)]) b6 b7 (.ow false V) b9 ds L x y) = .ok ((b.map (· + 1)).map D.int, VS (.tup [.str "full", .int 0, .int q, .tup (b.map D.int)]) b6 b7 (.ow false V) b9 ds L x y) := by
    intro b9
    unfold c__law_values_6
    rw [List.map_map]
    refine oLc_map b D.int _ rfl rfl ?_ (szn (by omega))
    intro s _
    exact ⟨[(14, .int s)], rfl, by simp, by simp [VS]⟩
  have c6 := c6 (.va (.tup ((b.map fun i => if i - 1 > 0 then i - 1 else 0).map D.int)))
  have nfp : (Str.ofString "full" == Str.ofString "plan") = false := by decide
  have sl : ∀ z : D, RT.cutD [.str "full", .int 0, .int q, z] none (some 3) = [.str "full", .int 0, .int q] := fun z => rfl
  unfold vals5F t__law_values_7
  generalize (b.map fun i => if i - 1 > 0 then i - 1 else 0).map D.int = q5 at c5 c6 ⊢
  generalize (b.map (· + 1)).map D.int = q6 at c6 ⊢
  generalize c__law_values_5 = cc5 at c5 ⊢
  generalize c__law_values_6 = cc6 at c6 ⊢
  unfold VS at c5 c6 ⊢
  generalize dL L = zl at c5 c6 ⊢
  generalize b.map D.int = zq at c5 c6 ⊢
  generalize (L.length : Int) = k at c5 c6 ⊢
  simp [eExt, c5, c6, h1, h2, h2', L2.ixN, sl, dAdd, nfp]
theorem fold_ok {v : D} (h : okD v = true) (hd : (dP v).depth ≤ 60) : HV v := HV.of h hd
theorem ok_take (ts : List D) (h : okDs ts = true) : ∀ k, okDs (ts.take k) = true ∧ PyData.depthAll (dPs (ts.take k)) ≤ PyData.depthAll (dPs ts) := by
  intro k
  have e := List.take_append_drop k ts
  have h1 := ok_app (ts.take k) (ts.drop k)
  rw [e] at h1
  rw [h1.1, Bool.and_eq_true] at h
  exact ⟨h.1, by omega⟩
theorem hv9 {ts : List D} {P : List (Int × Int)} (hts : ts.length ≤ 10) (ok : okDs ts = true) (dep : PyData.depthAll (dPs ts) ≤ 10) (hP : P.length ≤ 100) : ∀ v ∈ vals9 ts P, HV v := by
  intro v hv
  obtain ⟨w1, w2⟩ := ok_words
  obtain ⟨p1, p2⟩ := ok_shs P
  obtain ⟨Q, hQ, hQl⟩ := cut_sh P none (some (-1))
  obtain ⟨q1, q2⟩ := ok_shs Q
  obtain ⟨a1, a2⟩ := ok_app ts [.int 0]
  obtain ⟨t1, t2⟩ := ok_take ts ok 1
  have lt : (ts.take 1).length ≤ 1000 := by rw [List.length_take]; omega
  have la : (ts ++ [D.int 0]).length ≤ 1000 := by rw [List.length_append]; simp; omega
  have lp : (P.map dSh).length ≤ 1000 := by rw [List.length_map]; omega
  have lq : (Q.map dSh).length ≤ 1000 := by rw [List.length_map]; omega
  have ls : ts.length ≤ 1000 := by omega
  have a3 : okDs (ts ++ [.int 0]) = true := by rw [a1, ok]; rfl
  have a4 : PyData.depthAll (dPs (ts ++ [.int 0])) ≤ 10 := by rw [a2]; simp [dPs, dP, PyData.depthAll, PyData.depth]; omega
  unfold vals9 at hv
  rw [hQ] at hv
  simp only [List.mem_cons, List.not_mem_nil, or_false] at hv
  rcases hv with rfl | rfl | rfl | rfl | rfl | rfl | rfl | rfl | rfl
  · exact HV.of (by simp only [okD, ok, decide_eq_true ls]; rfl) (by simp only [dP, PyData.depth]; omega)
  · exact HV.of (by simp only [okD, ok, decide_eq_true ls]; rfl) (by simp only [dP, PyData.depth]; omega)
  · exact HV.of (by simp only [okD, a3, decide_eq_true la]; rfl) (by simp only [dP, PyData.depth]; omega)
  · exact HV.of (by simp only [okD, t1, decide_eq_true lt]; rfl) (by simp only [dP, PyData.depth]; omega)
  · exact HV.of rfl (by decide)
  · exact HV.of rfl (by decide)
  · exact HV.of (by simp [okD, okDs, w1, p1, lp]; omega) (by simp only [dP, dPs, PyData.depth, PyData.depthAll]; omega)
  · exact HV.of (by simp [okD, okDs, w1, p1, lp]; omega) (by simp only [dP, dPs, PyData.depth, PyData.depthAll]; omega)
  · exact HV.of (by simp [okD, okDs, w1, q1, lq]; omega) (by simp only [dP, dPs, PyData.depth, PyData.depthAll]; omega)
theorem hv4 {bs : List Int} {many : Nat} {x y : Int} (hb : bs.length ≤ 100) (hm : many ≤ 100) : ∀ v ∈ vals4 bs many x y, HV v := by
  intro v hv
  obtain ⟨w1, w2⟩ := ok_words
  obtain ⟨p1, p2⟩ := ok_ints bs
  obtain ⟨q1, q2⟩ := ok_bls many
  unfold vals4 at hv
  simp only [List.mem_cons, List.not_mem_nil, or_false] at hv
  rcases hv with rfl | rfl | rfl | rfl
  · exact HV.of (by simp [okD, okDs, w2, p1]; omega) (by simp only [dP, dPs, PyData.depth, PyData.depthAll]; omega)
  · exact HV.of (by simp [okD, okDs, w2]) (by simp only [dP, dPs, PyData.depth, PyData.depthAll]; decide)
  · exact HV.of (by simp [okD, okDs, w2]) (by simp only [dP, dPs, PyData.depth, PyData.depthAll]; decide)
  · exact HV.of (by simp [okD, okDs, w1, q1]; omega) (by simp only [dP, dPs, PyData.depth, PyData.depthAll]; omega)
theorem hv3P {Q : List (Int × Int)} (hQ : Q.length ≤ 100) : ∀ v ∈ vals3P Q, HV v := by
  intro v hv
  obtain ⟨w1, w2⟩ := ok_words
  have e1 : Q.map (fun s => dSh (s.1, s.2 + 1)) = (Q.map fun s => (s.1, s.2 + 1)).map dSh := by rw [List.map_map]; rfl
  have e2 : Q.map (fun s => dSh (s.1 + 1, s.2 + 1)) = (Q.map fun s => (s.1 + 1, s.2 + 1)).map dSh := by rw [List.map_map]; rfl
  have e3 : (Q.map dSh).reverse = Q.reverse.map dSh := by rw [List.map_reverse]
  have key : ∀ R : List (Int × Int), R.length ≤ 100 → HV (.tup [.str "plan", .tup (R.map dSh)]) := fun R hR => by
    obtain ⟨p1, p2⟩ := ok_shs R
    exact HV.of (by simp [okD, okDs, w1, p1]; omega) (by simp only [dP, dPs, PyData.depth, PyData.depthAll]; omega)
  unfold vals3P at hv
  rw [e1, e2, e3] at hv
  simp only [List.mem_cons, List.not_mem_nil, or_false] at hv
  rcases hv with rfl | rfl | rfl
  · exact key _ (by rw [List.length_map]; exact hQ)
  · exact key _ (by rw [List.length_map]; exact hQ)
  · exact key _ (by rw [List.length_reverse]; exact hQ)
theorem hv5F {q : Int} {b : List Int} (hb : b.length ≤ 100) : ∀ v ∈ vals5F q b, HV v := by
  intro v hv
  obtain ⟨w1, w2⟩ := ok_words
  have key : ∀ (R : List Int) (a : D), okD a = true → (dP a).depth ≤ 1 → R.length ≤ 100 → HV (.tup [.str "full", a, .int q, .tup (R.map D.int)]) ∧ HV (.tup [.str "full", a, .int q, .lst (R.map D.int)]) := fun R a ha hd hR => by
    obtain ⟨p1, p2⟩ := ok_ints R
    exact ⟨HV.of (by simp [okD, okDs, w2, p1, ha]; omega) (by simp only [dP, dPs, PyData.depth, PyData.depthAll]; omega), HV.of (by simp [okD, okDs, w2, p1, ha]; omega) (by simp only [dP, dPs, PyData.depth, PyData.depthAll]; omega)⟩
  unfold vals5F at hv
  simp only [List.mem_cons, List.not_mem_nil, or_false] at hv
  rcases hv with rfl | rfl | rfl | rfl | rfl
  · exact (key _ (.int 0) rfl (by decide) (by rw [List.length_map]; exact hb)).1
  · exact (key _ (.int 0) rfl (by decide) (by rw [List.length_map]; exact hb)).1
  · exact (key _ (.int 0) rfl (by decide) hb).2
  · exact (key _ (.bl true) rfl (by decide) hb).1
  · exact (key [] (.int q) rfl (by simp only [dP, PyData.depth]; decide) (by decide)).1
theorem e_law_values {m : Nat} (hf : OkF n cs) (hL : L.length ≤ 30) (hp : PotOk m ds) (hm : m + 1000 < 2 ^ 40) : ∃ (V : List D) (ds' : List D), (∀ v ∈ V, HV v) ∧ V.length ≤ 100 ∧ PotOk (m + 202) ds' ∧ F__law_values [.ow true ds, .va (paperD n cs r L), .va (dL L)] = .ok (.lst V, [.ow true ds', .va (paperD n cs r L), .va (dL L)]) := by
  have hgl := gtold_len (n := n) (cs := cs) (r := r) L 0 0
  obtain ⟨w1, w2⟩ := ok_words
  have go : ∀ ts : List D, paperD n cs r L = .tup ts → ts.length ≤ 10 → okDs ts = true → PyData.depthAll (dPs ts) ≤ 10 → (∀ (b6 b7 : B) (ds : List D) (x y : Int) (V : List D), V.length ≤ 50 → ∃ (W : List D) (b9 : B), (∀ v ∈ W, HV v) ∧ W.length ≤ 10 ∧ t__law_values_7 (VS (.tup ts) b6 b7 (.ow false V) .un ds L x y) = .nx (VS (.tup ts) b6 b7 (.ow false (V ++ W)) b9 ds L x y)) → ∃ (V : List D) (ds' : List D), (∀ v ∈ V, HV v) ∧ V.length ≤ 100 ∧ PotOk (m + 202) ds' ∧ F__law_values [.ow true ds, .va (paperD n cs r L), .va (dL L)] = .ok (.lst V, [.ow true ds', .va (paperD n cs r L), .va (dL L)]) := by
    intro ts ht h1 h2 h3 h7
    rw [ht]
    have f1 := v1 (T := .tup ts) (L := L) (ds := ds)
    obtain ⟨x, y, ds1, x1, x2, y1, y2, p1, f2⟩ := v2 (T := .tup ts) hL hp (by omega)
    obtain ⟨bs, ds2, hb, p2, f3⟩ := v3 (T := .tup ts) (L := L) (x := x) (y := y) x1 (by omega) p1 (by omega)
    obtain ⟨P, ds3, hP, p3, f4⟩ := v4 (T := .tup ts) (x := x) (y := y) (b6 := .va (.tup (bs.map D.int))) hL p2 (by omega)
    have f5 := v5 (ds := ds3) (L := L) (P := P) (b6 := .va (.tup (bs.map D.int))) (x := x) (y := y) h1
    have f6 := v6 (ds := ds3) (T := .tup ts) (bs := bs) (b7 := .va (.tup (P.map dSh))) (x := x) (y := y) (V := vals9 ts P) (by simp [vals9]) hL
    obtain ⟨W, b9, hW, hWl, f7⟩ := h7 (.va (.tup (bs.map D.int))) (.va (.tup (P.map dSh))) ds3 x y (vals9 ts P ++ vals4 bs L.length x y) (by simp [vals9, vals4])
    refine ⟨(vals9 ts P ++ vals4 bs L.length x y) ++ W, ds3, ?_, ?_, p3.mono (by omega), ?_⟩
    · intro v hv
      rcases List.mem_append.mp hv with q | q
      · rcases List.mem_append.mp q with q | q
        · exact hv9 h1 h2 h3 (by omega) v q
        · exact hv4 hb (by omega) v q
      · exact hW v q
    · simp [vals9, vals4]; omega
    · have h8 : t__law_values_8 (VS (.tup ts) (.va (.tup (bs.map D.int))) (.va (.tup (P.map dSh))) (.ow false ((vals9 ts P ++ vals4 bs L.length x y) ++ W)) b9 ds3 L x y) = .rt (.lst ((vals9 ts P ++ vals4 bs L.length x y) ++ W)) (VS (.tup ts) (.va (.tup (bs.map D.int))) (.va (.tup (P.map dSh))) (.va (.lst ((vals9 ts P ++ vals4 bs L.length x y) ++ W))) b9 ds3 L x y) := rfl
      have h9 : g__law_values ([.ow true ds, .va (.tup ts), .va (dL L)] ++ List.replicate 12 .un) = _ := (seq_nx f1).trans ((seq_nx f2).trans ((seq_nx f3).trans ((seq_nx f4).trans ((seq_nx f5).trans ((seq_nx f6).trans ((seq_nx f7).trans h8))))))
      exact call_of rfl h9 rfl
  unfold paperD at go ⊢
  cases hq : (gtold n cs r 0 0 L).2 with
  | none =>
    rw [hq] at go
    simp only at go ⊢
    obtain ⟨p1, p2⟩ := ok_shs (gtold n cs r 0 0 L).1
    refine go _ rfl (by simp) (by simp [okD, okDs, w1, p1]; omega) (by simp only [dP, dPs, PyData.depth, PyData.depthAll]; omega) fun b6 b7 ds x y V hV => ⟨_, _, hv3P (Q := (gtold n cs r 0 0 L).1) (by omega), by simp [vals3P], v7p (by omega) (by omega)⟩
  | some q =>
    rw [hq] at go
    simp only at go ⊢
    have e : (gtold n cs r 0 0 L).1.map (fun s => D.int s.2) = ((gtold n cs r 0 0 L).1.map (fun s => s.2)).map D.int := by rw [List.map_map]; rfl
    rw [e] at go ⊢
    obtain ⟨p1, p2⟩ := ok_ints ((gtold n cs r 0 0 L).1.map (fun s => s.2))
    refine go _ rfl (by simp) (by simp [okD, okDs, w2, p1, -List.map_map]; omega) (by simp only [dP, dPs, PyData.depth, PyData.depthAll]; omega) fun b6 b7 ds x y V hV => ⟨_, _, hv5F (q := (q : Int)) (b := (gtold n cs r 0 0 L).1.map (fun s => s.2)) (by rw [List.length_map]; omega), by simp [vals5F], v7f (by omega) (by rw [List.length_map]; omega)⟩
end My
namespace My
open PySem PySem.Spec PyProof.Rows L2 RT
variable {n : Int} {cs : List Int} {l : Ln} {r : Ru} {t : Int} {L : List Ln} {ds : List D}
theorem lcGo_sf {S α : Type} {vs : List Nat} {tg : D → Option (List (Nat × D))} {tt : BS} {te : ES} (I : Nat → S → Prop) (En : S → List B) (enc f : α → D) : ∀ (L : List α) (k : Nat) (s : S) (acc : List D), I k s →
    (∀ a ∈ L, ∀ j s, k ≤ j → j < k + L.length → I j s → ∃ as c s' ρ2, tg (enc a) = some as ∧ tt (putB (En s) as) = .ok (c, ρ2) ∧ (c = true → te ρ2 = .ok (f a, ρ2)) ∧ wipeB ρ2 vs = En s' ∧ I (j + 1) s') → acc.length + L.length ≤ sizeLine →
    ∃ (M : List α) (s' : S), M.Sublist L ∧ lcGo vs tg tt te (L.map enc) (En s) acc = .ok (acc ++ M.map f, En s') ∧ I (k + L.length) s'
  | [], k, s, acc, hI, _, _ => ⟨[], s, List.Sublist.refl _, by simp [lcGo], hI⟩
  | a :: L, k, s, acc, hI, h, hz => by
    obtain ⟨as, c, s', ρ2, h1, h2, h3, h4, h5⟩ := h a List.mem_cons_self k s (Nat.le_refl _) (by simp) hI
    rw [List.length_cons] at hz
    rw [List.map_cons]
    cases c with
    | false =>
      obtain ⟨M, s2, q1, q2, q3⟩ := lcGo_sf (vs := vs) (tg := tg) (tt := tt) (te := te) I En enc f L (k + 1) s' acc h5 (fun b hb j s hj hj2 => h b (List.mem_cons_of_mem _ hb) j s (by omega) (by simp; omega)) (by omega)
      refine ⟨M, s2, q1.cons a, ?_, by rw [List.length_cons, show k + (L.length + 1) = k + 1 + L.length by omega]; exact q3⟩
      unfold lcGo
      rw [h1]
      simp only [h2, noX_ok, Rs.ok_bind, h4]
      exact q2
    | true =>
      obtain ⟨M, s2, q1, q2, q3⟩ := lcGo_sf (vs := vs) (tg := tg) (tt := tt) (te := te) I En enc f L (k + 1) s' (acc ++ [f a]) h5 (fun b hb j s hj hj2 => h b (List.mem_cons_of_mem _ hb) j s (by omega) (by simp; omega)) (by simp; omega)
      refine ⟨a :: M, s2, q1.cons₂ a, ?_, by rw [List.length_cons, show k + (L.length + 1) = k + 1 + L.length by omega]; exact q3⟩
      unfold lcGo
      rw [h1]
      simp only [h2, noX_ok, Rs.ok_bind, h3 rfl]
      rw [if_pos (by omega), h4, q2]
      simp
theorem asc_pw : ∀ {l : List Int}, l.Pairwise (· < ·) → Asc l
  | [], _ => trivial
  | [_], _ => trivial
  | a :: b :: r, h => by
    obtain ⟨h1, h2⟩ := List.pairwise_cons.mp h
    exact ⟨h1 b List.mem_cons_self, asc_pw h2⟩
theorem e_law_film {m : Nat} (hp : PotOk m ds) (hm : m + 100 < 2 ^ 40) : ∃ (n : Int) (cs : List Int) (ds' : List D), 4 ≤ n ∧ n ≤ 20 ∧ OkF n cs ∧ PotOk (m + 20) ds' ∧ F__law_film [.ow true ds, .va (.int 20)] = .ok (film n cs, [.ow true ds', .va (.int 20)]) := by
  obtain ⟨v, ds1, x1, x2, p1, f1⟩ := e_take (u := 17) hp (by omega) (by decide) (by decide)
  have c1 := eCallB_eq (Fn := F__law_take) (a := (aCons (eOp dSub (eSlot 1) (eC (.int 3))) aNil)) (ρ := [.ow true ds, .va (.int 20), .un]) (j := 0) (args := [.int 17]) rfl rfl f1
  have g1 : t__law_film_1 [.ow true ds, .va (.int 20), .un] = .nx [.ow true ds1, .va (.int (4 + v)), .un] := by
    simp only [t__law_film_1, r_sSet, r_eOp, r_eC, Rs.ok_bind, c1, r_addI, ofO_some, r_sRs_ok]
    rfl
  obtain ⟨k, hk⟩ : ∃ k : Nat, (4 + v - 1).toNat = k := ⟨_, rfl⟩
  have it := it2_int (f := (eC (.int 1))) (g := (eSlot 1)) (ρ := [.ow true ds1, .va (.int (4 + v)), .un]) (ρ1 := [.ow true ds1, .va (.int (4 + v)), .un]) (ρ2 := [.ow true ds1, .va (.int (4 + v)), .un]) (a := 1) (b := 4 + v) (by decide) (by decide) (by omega) (by omega) rfl rfl
  rw [hk] at it
  obtain ⟨M, ds2, q1, q2, q3⟩ := lcGo_sf (vs := [2]) (tg := gN 2) (tt := (bV (eOp dEq (eCallB 0 F__law_take (aCons (eC (.int 6)) aNil)) (eC (.int 0))))) (te := (eBlt dInt (aCons (eSlot 2) aNil))) (fun j s => PotOk (m + 1 + j) s) (fun s => [.ow true s, .va (.int (4 + v)), .un]) (fun (i : Nat) => D.int (1 + i)) (fun (i : Nat) => D.int (1 + i)) (List.range k) 0 ds1 [] (by simpa using p1) (by
    intro a _ j s _ hj hI
    rw [List.length_range] at hj
    obtain ⟨b, s', b1, b2, p2, f2⟩ := e_take (u := 6) hI (by omega) (by decide) (by decide)
    have c := eCallB_eq (Fn := F__law_take) (a := (aCons (eC (.int 6)) aNil)) (ρ := [.ow true s, .va (.int (4 + v)), .va (.int (1 + a))]) (j := 0) rfl rfl f2
    refine ⟨[(2, .int (1 + a))], b == 0, s', [.ow true s', .va (.int (4 + v)), .va (.int (1 + a))], rfl, ?_, fun _ => rfl, rfl, by simpa [Nat.add_assoc] using p2⟩
    show (bV (eOp dEq (eCallB 0 F__law_take (aCons (eC (.int 6)) aNil)) (eC (.int 0)))) [.ow true s, .va (.int (4 + v)), .va (.int (1 + a))] = _
    rw [r_bV, r_eOp, c]
    rfl) (by rw [List.length_range]; exact szn (by simp; omega))
  have hc : c__law_film_1 [.ow true ds1, .va (.int (4 + v)), .un] = .ok (M.map (fun (i : Nat) => D.int (1 + i)), [.ow true ds2, .va (.int (4 + v)), .un]) := by
    unfold c__law_film_1 oLc
    rw [it, Rs.ok_bind]
    have e : wipeB [.ow true ds1, .va (.int (4 + v)), .un] [2] = [.ow true ds1, .va (.int (4 + v)), .un] := rfl
    simp only [e, q2]
    rfl
  have hM : ∀ i ∈ M, i < k := fun i hi => List.mem_range.mp (q1.subset hi)
  have hpw : (M.map fun (i : Nat) => (1 + i : Int)).Pairwise (· < ·) := by
    rw [List.pairwise_map]
    refine List.Pairwise.imp (fun h => by omega) ((List.pairwise_lt_range (n := k)).sublist q1)
  have hlM : M.length ≤ k := by have := q1.length_le; rw [List.length_range] at this; exact this
  have e : M.map (fun (i : Nat) => D.int (1 + i)) = (M.map fun (i : Nat) => (1 + i : Int)).map D.int := by rw [List.map_map]; rfl
  refine ⟨4 + v, M.map fun (i : Nat) => (1 + i : Int), ds2, by omega, by omega, ⟨by omega, by omega, fun c hc => ?_, asc_pw hpw, by rw [List.length_map]; omega⟩, q3.mono (by rw [List.length_range]; omega), ?_⟩
  · obtain ⟨i, hi, rfl⟩ := List.mem_map.mp hc
    have := hM i hi
    omega
  · have g2 : t__law_film_2 [.ow true ds1, .va (.int (4 + v)), .un] = .rt (film (4 + v) (M.map fun (i : Nat) => (1 + i : Int))) [.ow true ds2, .va (.int (4 + v)), .un] := by
      unfold film
      rw [← e]
      unfold t__law_film_2
      generalize M.map (fun (i : Nat) => D.int (1 + i)) = z at hc ⊢
      generalize c__law_film_1 = cc at hc ⊢
      simp [hc]
    have h5 : g__law_film ([.ow true ds, .va (.int 20)] ++ List.replicate 1 .un) = _ := (seq_nx g1).trans g2
    exact call_of rfl h5 rfl
theorem e_law_rules {m : Nat} (hp : PotOk m ds) (hm : m + 100 < 2 ^ 40) : ∃ (r : Ru) (ds' : List D), OkR r ∧ PotOk (m + 4) ds' ∧ F__law_rules [.ow true ds] = .ok (dRu r, [.ow true ds']) := by
  obtain ⟨a, ds1, a1, a2, p1, f1⟩ := e_take (u := 3) hp (by omega) (by decide) (by decide)
  obtain ⟨b, ds2, b1, b2, p2, f2⟩ := e_take (u := 5) p1 (by omega) (by decide) (by decide)
  obtain ⟨c, ds3, c1, c2, p3, f3⟩ := e_take (u := 4) p2 (by omega) (by decide) (by decide)
  obtain ⟨g, ds4, g1, g2, p4, f4⟩ := e_take (u := 3) p3 (by omega) (by decide) (by decide)
  refine ⟨⟨a, b, c, g⟩, ds4, ⟨⟨a1, (show a ≤ 100 by omega)⟩, ⟨b1, (show b ≤ 100 by omega)⟩, ⟨c1, (show c ≤ 100 by omega)⟩, ⟨g1, (show g ≤ 100 by omega)⟩⟩, p4, ?_⟩
  have h : g__law_rules ([.ow true ds] ++ List.replicate 0 .un) = .rt (dRu ⟨a, b, c, g⟩) [.ow true ds4] := by
    show g__law_rules [.ow true ds] = _
    unfold dRu g__law_rules
    generalize F__law_take = F at f1 f2 f3 f4 ⊢
    simp [f1, f2, f3, f4]
  exact call_of rfl h rfl
theorem zip_tail : ∀ {l : List Int}, l.Pairwise (· ≤ ·) → ∀ (i : Nat) (a b : Int), l[i]? = some a → l[i + 1]? = some b → a ≤ b
  | [], _, i, a, b, h, _ => by simp at h
  | x :: l, hp, 0, a, b, h1, h2 => by
    obtain ⟨p1, p2⟩ := List.pairwise_cons.mp hp
    simp at h1 h2
    subst h1
    exact p1 b (List.mem_of_getElem? h2)
  | x :: l, hp, i + 1, a, b, h1, h2 => zip_tail (List.pairwise_cons.mp hp).2 i a b (by simpa using h1) (by simpa using h2)
theorem ascL_of : ∀ (S : List Int) (M : List Ln), S.Pairwise (· ≤ ·) → M.length = S.length → (∀ (i : Nat) (a : Int) (b : Ln), S[i]? = some a → M[i]? = some b → b.1 = a) → AscL M
  | _, [], _, _, _ => trivial
  | _, [_], _, _, _ => trivial
  | [], _ :: _ :: _, _, h, _ => by simp at h
  | [_], _ :: _ :: _, _, h, _ => by simp at h
  | a :: b :: S, x :: y :: M, hp, hl, h => by
    have h1 := h 0 a x rfl rfl
    have h2 := h 1 b y rfl rfl
    obtain ⟨p1, p2⟩ := List.pairwise_cons.mp hp
    refine ⟨by rw [h1, h2]; exact p1 b List.mem_cons_self, ascL_of (b :: S) (y :: M) p2 (by simpa using hl) fun i u w g1 g2 => h (i + 1) u w (by simpa using g1) (by simpa using g2)⟩
theorem e_law_lines {m : Nat} (hp : PotOk m ds) (hm : m + 100 < 2 ^ 40) (h1 : 4 ≤ n) (h2 : n ≤ 20) : ∃ (L : List Ln) (ds' : List D), OkL n L ∧ L.length ≤ 5 ∧ (∀ l ∈ L, l.2.2 ≤ 5) ∧ PotOk (m + 22) ds' ∧
    F__law_lines [.ow true ds, .va (.int n), .va (.int 5)] = .ok (dL L, [.ow true ds', .va (.int n), .va (.int 5)]) := by
  obtain ⟨v, ds1, v1, v2, p1, f1⟩ := e_take (u := 6) hp (by omega) (by decide) (by decide)
  obtain ⟨k, rfl⟩ : ∃ k : Nat, v = k := ⟨v.toNat, by omega⟩
  obtain ⟨bs, ds2, q1, q2, q3, q4⟩ := oLc_st (it := (iRange1 (eCallB 0 F__law_take (aCons (eOp dAdd (eSlot 2) (eC (.int 1))) aNil)))) (tg := gN 4) (te := (eBlt dInt (aCons (eCallB 0 F__law_take (aCons (eSlot 1) aNil)) aNil))) (vs := [4])
    (ρ := [.ow true ds, .va (.int n), .va (.int 5), .un, .un, .un]) (ρ1 := [.ow true ds1, .va (.int n), .va (.int 5), .un, .un, .un])
    (fun j s => PotOk (m + 1 + j) s) (fun s => [.ow true s, .va (.int n), .va (.int 5), .un, .un, .un]) D.int D.int (fun a b => 0 ≤ b ∧ b < n) ((List.range k).map fun (i : Nat) => (i : Int)) 0 ds1 (by simpa using p1)
    (it_go (by omega) (by simp [f1])) (by rfl) (by rfl) (by
      intro a _ j s _ hj hI
      simp at hj
      obtain ⟨b, s', b1, b2, p2, f2⟩ := e_take (u := n) hI (by omega) (by omega) (by omega)
      exact ⟨[(4, .int a)], b, s', [.ow true s', .va (.int n), .va (.int 5), .un, .va (.int a), .un], rfl, by simp [f2], by simp, by simpa [Nat.add_assoc] using p2, b1, b2⟩) (by simp; rw [sizeLine_eq]; omega)
  have hbl : bs.length = k := by rw [q3]; simp
  have hb : ∀ b ∈ bs, 0 ≤ b ∧ b < n := fun b hb => by
    obtain ⟨i, hi⟩ := List.getElem?_of_mem hb
    have hlt := (List.getElem?_eq_some_iff.mp hi).1
    rw [hbl] at hlt
    exact q4 i i b (by rw [List.getElem?_map, List.getElem?_range hlt]; rfl) hi
  have s1 : t__law_lines_1 [.ow true ds, .va (.int n), .va (.int 5), .un, .un, .un] = .nx [.ow true ds2, .va (.int n), .va (.int 5), .va (.lst ((sortI bs).map D.int)), .un, .un] := by
    have q1 : c__law_lines_2 [.ow true ds, .va (.int n), .va (.int 5), .un, .un, .un] = .ok (bs.map D.int, [.ow true ds2, .va (.int n), .va (.int 5), .un, .un, .un]) := by
      unfold c__law_lines_2
      rw [q1]
      simp
    simp [t__law_lines_1, q1, r_sortedL]
  have hs : ∀ b ∈ sortI bs, 0 ≤ b ∧ b < n := fun b h => hb b ((sortI_perm bs).mem_iff.mp h)
  have hsl : (sortI bs).length = k := by rw [(sortI_perm bs).length_eq, hbl]
  obtain ⟨ls, ds3, r1, r2, r3, r4⟩ := oLc_st (it := (iSeq (eSlot 3))) (tg := gN 5) (te := (eTup (aCons (eSlot 5) (aCons (eBlt dInt (aCons (eOp dAdd (eOp dAdd (eSlot 5) (eC (.int 1))) (eCallB 0 F__law_take (aCons (eBlt dMinB (aCons (eC (.int 5)) (aCons (eOp dSub (eSlot 1) (eSlot 5)) aNil))) aNil))) aNil)) (aCons (eBlt dInt (aCons (eOp dAdd (eC (.int 1)) (eCallB 0 F__law_take (aCons (eC (.int 5)) aNil))) aNil)) aNil))))) (vs := [5])
    (ρ := [.ow true ds2, .va (.int n), .va (.int 5), .va (.lst ((sortI bs).map D.int)), .un, .un]) (ρ1 := [.ow true ds2, .va (.int n), .va (.int 5), .va (.lst ((sortI bs).map D.int)), .un, .un])
    (fun j s => PotOk (m + 8 + 2 * j) s) (fun s => [.ow true s, .va (.int n), .va (.int 5), .va (.lst ((sortI bs).map D.int)), .un, .un]) D.int dLn (fun a (b : Ln) => b.1 = a ∧ a < b.2.1 ∧ b.2.1 ≤ n ∧ 1 ≤ b.2.2 ∧ b.2.2 ≤ 5) (sortI bs) 0 ds2 (by
      refine PotOk.mono q2 ?_
      simp
      omega)
    (by simp) (by rfl) (by rfl) (by
      intro a ha j s _ hj hI
      obtain ⟨a1, a2⟩ := hs a ha
      rw [hsl] at hj
      have hu : 0 < (if n - a < 5 then n - a else 5) := by split <;> omega
      have hu2 : (if n - a < 5 then n - a else 5) ≤ n - a := by split <;> omega
      have hu3 : (if n - a < 5 then n - a else 5) < 2 ^ 60 := by split <;> omega
      obtain ⟨b, s', b1, b2, p2, f2⟩ := e_take hI (by omega) hu hu3
      obtain ⟨c, s'', c1, c2, p3, f3⟩ := e_take (u := 5) p2 (by omega) (by decide) (by decide)
      refine ⟨[(5, .int a)], (a, a + 1 + b, 1 + c), s'', [.ow true s'', .va (.int n), .va (.int 5), .va (.lst ((sortI bs).map D.int)), .un, .va (.int a)], rfl, ?_, by simp, PotOk.mono p3 (by omega), rfl, by simp only; omega, by simp only; omega, by simp only; omega, by simp only; omega⟩
      generalize F__law_take = F at f2 f3 ⊢
      simp [f2, f3, dLn]) (by rw [hsl, sizeLine_eq]; omega)
  have hl : ls.length = k := by rw [r3, hsl]
  have each : ∀ l ∈ ls, 0 ≤ l.1 ∧ l.1 < l.2.1 ∧ l.2.1 ≤ n ∧ 1 ≤ l.2.2 ∧ l.2.2 ≤ 5 := fun l hm => by
    obtain ⟨i, hi⟩ := List.getElem?_of_mem hm
    have hlt := (List.getElem?_eq_some_iff.mp hi).1
    have hlt2 : i < (sortI bs).length := by omega
    obtain ⟨e, x1, x2, x3, x4⟩ := r4 i _ l (List.getElem?_eq_getElem hlt2) hi
    have := (hs _ (List.getElem_mem hlt2)).1
    exact ⟨by omega, by omega, x2, x3, x4⟩
  refine ⟨ls, ds3, ⟨by omega, fun l hm => by obtain ⟨y1, y2, y3, y4, y5⟩ := each l hm; exact ⟨y1, y2, y3, y4, by omega⟩, ascL_of (sortI bs) ls (sortI_sorted bs) (by omega) fun i a b g1 g2 => (r4 i a b g1 g2).1⟩, by omega, fun l hm => (each l hm).2.2.2.2, PotOk.mono r2 (by rw [hsl]; omega), ?_⟩
  have r1 : c__law_lines_3 [.ow true ds2, .va (.int n), .va (.int 5), .va (.lst ((sortI bs).map D.int)), .un, .un] = .ok (ls.map dLn, [.ow true ds3, .va (.int n), .va (.int 5), .va (.lst ((sortI bs).map D.int)), .un, .un]) := by
    unfold c__law_lines_3
    rw [r1]
    simp
  have s2 : t__law_lines_2 [.ow true ds2, .va (.int n), .va (.int 5), .va (.lst ((sortI bs).map D.int)), .un, .un] = .rt (dL ls) [.ow true ds3, .va (.int n), .va (.int 5), .va (.lst ((sortI bs).map D.int)), .un, .un] := by
    unfold dL t__law_lines_2
    generalize ls.map dLn = z at r1 ⊢
    generalize c__law_lines_3 = cc at r1 ⊢
    simp [r1]
  have h5 : g__law_lines ([.ow true ds, .va (.int n), .va (.int 5)] ++ List.replicate 3 .un) = _ := (seq_nx s1).trans s2
  exact call_of rfl h5 rfl
end My
namespace My
open PySem PySem.Spec PyProof.Rows L2 RT
variable {n : Int} {cs : List Int} {l : Ln} {r : Ru} {t : Int} {L : List Ln} {ds : List D} {b4 b5 b6 b7 b8 b9 b10 b11 : B}
theorem eCallB_eq2 {Fn : FS} {a : AS} {ρ ρ1 : List B} {j : Nat} {k k2 : Bool} {ds0 ds es : List D} {args : List D} {d : D} {r : List B} (h00 : ρ[j]? = some (.ow k2 ds0)) (ha : a ρ = .ok (args, ρ1)) (h0 : ρ1[j]? = some (.ow k ds)) (hf : Fn (.ow true ds :: args.map .va) = .ok (d, .ow true es :: r)) : eCallB j Fn a ρ = .ok (d, ρ1.set j (.ow k es)) := by
  simp only [r_eCallB, r_atOw, h00, h0, ha, hf, Rs.ok_bind, noX_ok]
theorem e_law_of {m : Nat} {xs : List D} (hp : PotOk m ds) (hm : m < 2 ^ 40) (h0 : 0 < xs.length) (h1 : xs.length < 2 ^ 60) : ∃ (i : Nat) (d : D) (ds' : List D), xs[i]? = some d ∧ PotOk (m + 1) ds' ∧ F__law_of [.ow true ds, .va (.lst xs)] = .ok (d, [.ow true ds', .va (.lst xs)]) := by
  obtain ⟨v, ds', v1, v2, p, f⟩ := e_take (u := (xs.length : Int)) hp hm (by omega) (by omega)
  have hi : v.toNat < xs.length := by omega
  refine ⟨v.toNat, xs[v.toNat], ds', List.getElem?_eq_getElem hi, p, ?_⟩
  have hx : ixN xs.length v = some v.toNat := by unfold ixN; rw [if_pos v1, if_pos v2]
  have c := eCallB_eq (Fn := F__law_take) (a := (aCons (eBlt dLen (aCons (eSlot 1) aNil)) aNil)) (ρ := [.ow true ds, .va (.lst xs)]) (j := 0) rfl (args := [.int (xs.length : Int)]) (by simp) f
  have e : xs[v.toNat]? = some xs[v.toNat] := List.getElem?_eq_getElem hi
  generalize xs[v.toNat] = y at e ⊢
  have h5 : g__law_of ([.ow true ds, .va (.lst xs)] ++ List.replicate 0 .un) = .rt y [.ow true ds', .va (.lst xs)] := by
    show g__law_of [.ow true ds, .va (.lst xs)] = _
    simp only [g__law_of, r_sRet, r_eOp, r_eSlot, r_eSlotW, List.getElem?_cons_succ, List.getElem?_cons_zero, Rs.ok_bind, c, r_ixL, hx]
    simp [e]
  exact call_of rfl h5 rfl
def RS (ds : List D) (n : Int) (cs : List Int) (r : Ru) (L : List Ln) (b4 b5 b6 b7 b8 b9 b10 b11 : B) : List B := [.ow true ds, .va (film n cs), .va (dRu r), .va (dL L), b4, b5, b6, b7, b8, b9, b10, b11, .un]
theorem q1 {m : Nat} (hp : PotOk m ds) (hm : m + 200 < 2 ^ 40) : ∃ (n : Int) (cs : List Int) (r : Ru) (ds' : List D), 4 ≤ n ∧ n ≤ 20 ∧ OkF n cs ∧ OkR r ∧ PotOk (m + 24) ds' ∧ t__law_right_1 [.ow true ds, .un, .un, .un, .un, .un, .un, .un, .un, .un, .un, .un, .un] = .nx [.ow true ds', .va (film n cs), .va (dRu r), .un, .un, .un, .un, .un, .un, .un, .un, .un, .un] := by
  obtain ⟨n, cs, ds1, n1, n2, hf, p1, f1⟩ := e_law_film hp (by omega)
  obtain ⟨r, ds2, hr, p2, f2⟩ := e_law_rules p1 (by omega)
  refine ⟨n, cs, r, ds2, n1, n2, hf, hr, p2.mono (by omega), ?_⟩
  have c1 := eCallB_eq (Fn := F__law_film) (a := (aCons (eC (.int 20)) aNil)) (ρ := [.ow true ds, .un, .un, .un, .un, .un, .un, .un, .un, .un, .un, .un, .un]) (j := 0) rfl rfl f1
  have c2 := eCallB_eq (Fn := F__law_rules) (a := aNil) (ρ := [.ow true ds1, .un, .un, .un, .un, .un, .un, .un, .un, .un, .un, .un, .un]) (j := 0) rfl rfl f2
  unfold t__law_right_1
  generalize eCallB 0 F__law_film (aCons (eC (.int 20)) aNil) = x1 at c1 ⊢
  generalize eCallB 0 F__law_rules aNil = x2 at c2 ⊢
  generalize film n cs = zf at c1 ⊢
  generalize dRu r = zr at c2 ⊢
  have c1 : x1 [.ow true ds, .un, .un, .un, .un, .un, .un, .un, .un, .un, .un, .un, .un] = .ok (zf, [.ow true ds1, .un, .un, .un, .un, .un, .un, .un, .un, .un, .un, .un, .un]) := c1
  have c2 : x2 [.ow true ds1, .un, .un, .un, .un, .un, .un, .un, .un, .un, .un, .un, .un] = .ok (zr, [.ow true ds2, .un, .un, .un, .un, .un, .un, .un, .un, .un, .un, .un, .un]) := c2
  simp [c1, c2]
theorem q2 {m : Nat} (hp : PotOk m ds) (hm : m + 200 < 2 ^ 40) (h1 : 4 ≤ n) (h2 : n ≤ 20) : ∃ (L : List Ln) (ds' : List D), OkL n L ∧ L.length ≤ 5 ∧ (∀ l ∈ L, l.2.2 ≤ 5) ∧ PotOk (m + 22) ds' ∧ t__law_right_2 [.ow true ds, .va (film n cs), .va (dRu r), .un, .un, .un, .un, .un, .un, .un, .un, .un, .un] = .nx (RS ds' n cs r L .un .un .un .un .un .un .un .un) := by
  obtain ⟨L, ds1, hL, hl, hk, p1, f1⟩ := e_law_lines hp (by omega) h1 h2
  refine ⟨L, ds1, hL, hl, hk, p1, ?_⟩
  have x0 := film0 (n := n) (cs := cs)
  have c1 := eCallB_eq (Fn := F__law_lines) (a := (aCons (eOp dIx (eSlot 1) (eC (.int 0))) (aCons (eC (.int 5)) aNil))) (ρ := [.ow true ds, .va (film n cs), .va (dRu r), .un, .un, .un, .un, .un, .un, .un, .un, .un, .un]) (j := 0) rfl (args := [.int n, .int 5]) (by
    generalize film n cs = zf at x0 ⊢
    simp [x0]) f1
  unfold t__law_right_2
  rw [r_sSet, c1]
  rfl
theorem q3 (hf : OkF n cs) (hr : OkR r) (hL : OkL n L) : t__law_right_3 (RS ds n cs r L .un .un .un .un .un .un .un .un) = .nx (RS ds n cs r L (.va (paperD n cs r L)) (.va (soonD n cs r L)) .un .un .un .un .un .un) := by
  have c1 := eCallK_eq (Fn := F_can_told) (idx := [2, 1, 0]) (a := (aCons (eSlot 2) (aCons (eSlot 3) (aCons (eSlot 1) aNil)))) (ρ := RS ds n cs r L .un .un .un .un .un .un .un .un) (ρ1 := RS ds n cs r L .un .un .un .un .un .un .un .un) (ds := [dRu r, dL L, film n cs]) (es := [film n cs, dL L, dRu r]) rfl rfl (e_can_told hf hr hL)
  have c2 := eCall_eq (Fn := F__law_early) (a := (aCons (eSlot 1) (aCons (eSlot 3) (aCons (eSlot 2) aNil)))) (ρ := RS ds n cs r L .un .un .un .un .un .un .un .un) (ρ1 := RS ds n cs r L .un .un .un .un .un .un .un .un) (ds := [film n cs, dL L, dRu r]) rfl (e_law_early hf hr hL.len)
  unfold t__law_right_3
  generalize eCallK F_can_told [2, 1, 0] (aCons (eSlot 2) (aCons (eSlot 3) (aCons (eSlot 1) aNil))) = x1 at c1 ⊢
  generalize eCall F__law_early (aCons (eSlot 1) (aCons (eSlot 3) (aCons (eSlot 2) aNil))) = x2 at c2 ⊢
  generalize paperD n cs r L = zp at c1 ⊢
  generalize soonD n cs r L = zs at c2 ⊢
  unfold RS at c1 c2 ⊢
  generalize film n cs = zf at c1 c2 ⊢
  generalize dRu r = zr at c1 c2 ⊢
  generalize dL L = zl at c1 c2 ⊢
  simp [c1, c2]
theorem paper_hv (hl : L.length ≤ 30) : HV (paperD n cs r L) ∧ ∃ k : Bool, dIx (paperD n cs r L) (.int 0) = some (.str (if k = true then "plan" else "full")) ∧ dIsNot (soonD n cs r L) .non = some (.bl k) := by
  have hgl := gtold_len (n := n) (cs := cs) (r := r) L 0 0
  obtain ⟨w1, w2⟩ := ok_words
  unfold paperD soonD
  cases hq : (gtold n cs r 0 0 L).2 with
  | none =>
    obtain ⟨p1, p2⟩ := ok_shs (gtold n cs r 0 0 L).1
    exact ⟨HV.of (by simp [okD, okDs, w1, p1]; omega) (by simp only [dP, dPs, PyData.depth, PyData.depthAll]; omega), true, rfl, rfl⟩
  | some q =>
    have e : (gtold n cs r 0 0 L).1.map (fun s => D.int s.2) = ((gtold n cs r 0 0 L).1.map (fun s => s.2)).map D.int := by rw [List.map_map]; rfl
    simp only
    rw [e]
    obtain ⟨p1, p2⟩ := ok_ints ((gtold n cs r 0 0 L).1.map (fun s => s.2))
    exact ⟨HV.of (by simp [okD, okDs, w2, p1, -List.map_map]; omega) (by simp only [dP, dPs, PyData.depth, PyData.depthAll]; omega), false, rfl, rfl⟩
theorem q4 (hf : OkF n cs) (hr : OkR r) (hL : OkL n L) : t__law_right_4 (RS ds n cs r L (.va (paperD n cs r L)) (.va (soonD n cs r L)) b6 b7 b8 b9 b10 b11) = .nx (RS ds n cs r L (.va (paperD n cs r L)) (.va (soonD n cs r L)) b6 b7 b8 b9 b10 b11) := by
  obtain ⟨hv, k, h1, h2⟩ := paper_hv (n := n) (cs := cs) (r := r) (L := L) hL.len
  obtain ⟨k2, hk2, f⟩ := e_law_is_due hf hr hL _ hv
  have hk : k2 = true := hk2.mpr (paper_due hf hL)
  subst hk
  have c2 := eCall_eq (Fn := F__law_is_due) (a := (aCons (eSlot 1) (aCons (eSlot 3) (aCons (eSlot 2) (aCons (eSlot 4) aNil))))) (ρ := RS ds n cs r L (.va (paperD n cs r L)) (.va (soonD n cs r L)) b6 b7 b8 b9 b10 b11) (ρ1 := RS ds n cs r L (.va (paperD n cs r L)) (.va (soonD n cs r L)) b6 b7 b8 b9 b10 b11) (ds := [film n cs, dL L, dRu r, paperD n cs r L]) rfl f
  unfold t__law_right_4
  generalize eCall F__law_is_due (aCons (eSlot 1) (aCons (eSlot 3) (aCons (eSlot 2) (aCons (eSlot 4) aNil)))) = x1 at c2 ⊢
  generalize paperD n cs r L = zp at c2 h1 ⊢
  generalize soonD n cs r L = zs at c2 h2 ⊢
  unfold RS at c2 ⊢
  generalize film n cs = zf at c2 ⊢
  generalize dRu r = zr at c2 ⊢
  generalize dL L = zl at c2 ⊢
  have e1 : ((("plan" : Str) == "plan")) = true := by decide
  have e2 : ((("full" : Str) == "plan")) = false := by decide
  have d1 : dNe (.bl true) (.bl true) = some (.bl false) := rfl
  have d2 : dNe (.bl false) (.bl false) = some (.bl false) := rfl
  cases k with
  | true =>
    have h1 : dIx zp (.int 0) = some (.str "plan") := h1
    simp [h1, h2, c2, d1]
  | false =>
    have h1 : dIx zp (.int 0) = some (.str "full") := h1
    have e2 : (Str.ofString "full" == Str.ofString "plan") = false := e2
    simp [h1, h2, c2, d2, e2]
theorem repr_bl (k : Bool) : ∃ s, reprD (.bl k) = some s := ⟨_, repr_small rfl (by simp [nodes]) (by simp [dP, PyData.depth])⟩
theorem q5b (hf : OkF n cs) (hr : OkR r) (hL : OkL n L) {v : D} (hv : HV v) : b__law_right_1 (RS ds n cs r L b4 b5 (.va v) b7 b8 b9 b10 b11) = .nx (RS ds n cs r L b4 b5 (.va v) b7 b8 b9 b10 b11) := by
  obtain ⟨k1, hk1, f1⟩ := e_shows_can hf hr hL v hv
  obtain ⟨k2, hk2, f2⟩ := e_law_is_due hf hr hL v hv
  have e : k2 = k1 := by cases k1 <;> cases k2 <;> simp_all
  subst e
  obtain ⟨s, hs⟩ := repr_bl k2
  have hne := (repr_same hs).1
  have c1 := eCallK_eq (Fn := F_shows_can) (idx := [3, 2, 1, 0]) (a := (aCons (eSlot 6) (aCons (eSlot 2) (aCons (eSlot 3) (aCons (eSlot 1) aNil))))) (ρ := RS ds n cs r L b4 b5 (.va v) b7 b8 b9 b10 b11) (ρ1 := RS ds n cs r L b4 b5 (.va v) b7 b8 b9 b10 b11) (ds := [v, dRu r, dL L, film n cs]) (es := [film n cs, dL L, dRu r, v]) rfl rfl f1
  have c2 := eCall_eq (Fn := F__law_is_due) (a := (aCons (eSlot 1) (aCons (eSlot 3) (aCons (eSlot 2) (aCons (eSlot 6) aNil))))) (ρ := RS ds n cs r L b4 b5 (.va v) b7 b8 b9 b10 b11) (ρ1 := RS ds n cs r L b4 b5 (.va v) b7 b8 b9 b10 b11) (ds := [film n cs, dL L, dRu r, v]) rfl f2
  unfold b__law_right_1
  generalize eCallK F_shows_can [3, 2, 1, 0] (aCons (eSlot 6) (aCons (eSlot 2) (aCons (eSlot 3) (aCons (eSlot 1) aNil)))) = x1 at c1 ⊢
  generalize eCall F__law_is_due (aCons (eSlot 1) (aCons (eSlot 3) (aCons (eSlot 2) (aCons (eSlot 6) aNil)))) = x2 at c2 ⊢
  generalize RS ds n cs r L b4 b5 (.va v) b7 b8 b9 b10 b11 = ρ at c1 c2 ⊢
  simp [c1, c2, hs, hne]
theorem forv6 {body : List B → Fl} {Rel : List B → Prop} {V : List D} {ρ : List B} (h0 : Rel ρ) (h : ∀ v ∈ V, ∀ ρ, Rel ρ → ∃ ρ', body (ρ.set 6 (.va v)) = .nx ρ' ∧ Rel ρ') : ∃ ρ', forGo (gN 6) body V ρ = .nx ρ' ∧ Rel ρ' := by
  obtain ⟨ρ', h1, h2⟩ := forGo_n (tg := gN 6) (body := body) (fun _ (_ : Unit) ρ => Rel ρ) id (fun _ _ => ()) V 0 () ρ h0 (fun v hv j s ρ _ hr => by
    obtain ⟨ρ', g1, g2⟩ := h v hv ρ hr
    exact ⟨[(6, v)], ρ', rfl, g1, g2⟩)
  rw [List.map_id] at h1
  exact ⟨ρ', h1, h2⟩
theorem q5 {m : Nat} (hf : OkF n cs) (hr : OkR r) (hL : OkL n L) (hp : PotOk m ds) (hm : m + 1000 < 2 ^ 40) : ∃ (b6' : B) (ds' : List D), PotOk (m + 202) ds' ∧ t__law_right_5 (RS ds n cs r L (.va (paperD n cs r L)) b5 b6 b7 b8 b9 b10 b11) = .nx (RS ds' n cs r L (.va (paperD n cs r L)) b5 b6' b7 b8 b9 b10 b11) := by
  obtain ⟨V, ds1, hV, hVl, p1, f⟩ := e_law_values (r := r) hf hL.len hp hm
  have c1 := eCallB_eq (Fn := F__law_values) (a := (aCons (eSlot 4) (aCons (eSlot 3) aNil))) (ρ := RS ds n cs r L (.va (paperD n cs r L)) b5 b6 b7 b8 b9 b10 b11) (j := 0) rfl rfl f
  obtain ⟨ρ', h1, b6', rfl⟩ := forv6 (body := b__law_right_1) (V := V) (Rel := fun ρ => ∃ b6', ρ = RS ds1 n cs r L (.va (paperD n cs r L)) b5 b6' b7 b8 b9 b10 b11) (ρ := RS ds1 n cs r L (.va (paperD n cs r L)) b5 b6 b7 b8 b9 b10 b11) ⟨_, rfl⟩ (by
    rintro v hv ρ ⟨b6', rfl⟩
    exact ⟨_, q5b (b4 := .va (paperD n cs r L)) (b5 := b5) hf hr hL (hV v hv), _, rfl⟩)
  refine ⟨b6', ds1, p1, ?_⟩
  unfold t__law_right_5
  rw [r_sFor, r_iSeq, c1]
  exact h1
end My
namespace My
open PySem PySem.Spec PyProof.Rows L2 RT
variable {n : Int} {cs : List Int} {l : Ln} {r : Ru} {t : Int} {L : List Ln} {ds : List D} {b4 b5 b6 b7 b8 b9 b10 b11 : B}
def OkP (L : List Ln) (P : List (Int × Int)) : Prop := P.length = L.length ∧ ∀ s ∈ P, 0 ≤ s.1 ∧ s.1 < s.2 ∧ s.2 ≤ 400
theorem p1 (hf : OkF n cs) (hL : OkL n L) (hk : ∀ l ∈ L, l.2.2 ≤ 5) (hn : n ≤ 20) : ∃ P : List (Int × Int), OkP L P ∧ (sSetO 8 (oIf (bV (eOp dIsNot (eSlot 5) (eC .non))) (oBlt dList (aCons (eSlot 5) aNil)) c__law_right_1)) (RS ds n cs r L b4 (.va (soonD n cs r L)) b6 b7 b8 b9 b10 b11) = .nx (RS ds n cs r L b4 (.va (soonD n cs r L)) b6 b7 (.ow false (P.map dSh)) b9 b10 b11) := by
  have hll := hL.len
  unfold soonD
  cases hq : (gtold n cs r 0 0 L).2 with
  | none =>
    obtain ⟨_, h2⟩ := wrong_told L 0 0 0 none hq (fun o e => nomatch e)
    refine ⟨(gtold n cs r 0 0 L).1, ⟨h2, told_bd hf L 0 0 (fun l hl => (hL.each l hl).2.2.2.1)⟩, ?_⟩
    have e : dIsNot (.lst ((gtold n cs r 0 0 L).1.map dSh)) .non = some (.bl true) := rfl
    generalize (gtold n cs r 0 0 L).1.map dSh = z at e ⊢
    unfold RS
    generalize film n cs = zf
    generalize dRu r = zr
    generalize dL L = zl
    simp [oIf, e]
  | some q =>
    refine ⟨L.map fun l => (l.1, l.1 + l.2.2), ⟨List.length_map .., fun s hs => ?_⟩, ?_⟩
    · obtain ⟨l, hl, rfl⟩ := List.mem_map.mp hs
      have := hL.each l hl
      have := hk l hl
      simp only
      omega
    · have c : c__law_right_1 (RS ds n cs r L b4 (.va .non) b6 b7 b8 b9 b10 b11) = .ok (L.map (fun l => dSh (l.1, l.1 + l.2.2)), RS ds n cs r L b4 (.va .non) b6 b7 b8 b9 b10 b11) := by
        unfold c__law_right_1
        refine oLc_map L dLn _ rfl rfl ?_ (szn (by omega))
        intro l _
        refine ⟨[(12, dLn l)], rfl, by simp, ?_⟩
        have h0 : dIx (dLn l) (.int 0) = some (.int l.1) := rfl
        have h2 : dIx (dLn l) (.int 2) = some (.int l.2.2) := rfl
        have s12 : (putB (wipeB (RS ds n cs r L b4 (.va .non) b6 b7 b8 b9 b10 b11) [12]) [(12, dLn l)])[12]? = some (.va (dLn l)) := rfl
        generalize putB (wipeB (RS ds n cs r L b4 (.va .non) b6 b7 b8 b9 b10 b11) [12]) [(12, dLn l)] = ρ at s12 ⊢
        generalize dLn l = zl at h0 h2 s12
        simp [s12, h0, h2, dSh]
      have e : dIsNot .non .non = some (.bl false) := rfl
      rw [List.map_map]
      have e2 : L.map (dSh ∘ fun l => (l.1, l.1 + l.2.2)) = L.map (fun l => dSh (l.1, l.1 + l.2.2)) := rfl
      rw [e2]
      simp only
      generalize L.map (fun l => dSh (l.1, l.1 + l.2.2)) = z at c ⊢
      generalize c__law_right_1 = cc at c ⊢
      unfold RS at c ⊢
      generalize film n cs = zf at c ⊢
      generalize dRu r = zr at c ⊢
      generalize dL L = zl at c ⊢
      simp [oIf, e, c]
def tPut : List B → Fl := (sIf (bV (eOp dNe (eSlotW 8) (eO (oLst aNil)))) (sSeq (sSet 9 (eCallB 0 F__law_take (aCons (eBlt dLen (aCons (eSlotW 8) aNil)) aNil))) (sSeq (sSet 10 (eBlt dInt (aCons (eCallB 0 F__law_take (aCons (eOp dIx (eSlot 1) (eC (.int 0))) aNil)) aNil))) (sPut 8 (eSlot 9) (eCallB 0 F__law_of (aCons (eO (oLst (aCons (eOp dIx (eSlotW 8) (eSlot 9)) (aCons (eTup (aCons (eSlot 10) (aCons (eBlt dInt (aCons (eOp dAdd (eOp dAdd (eSlot 10) (eC (.int 1))) (eCallB 0 F__law_take (aCons (eC (.int 5)) aNil))) aNil)) aNil))) aNil)))) aNil))))) sNx)
theorem p2 {m : Nat} {P : List (Int × Int)} (hP : OkP L P) (hl : L.length ≤ 30) (h1 : 4 ≤ n) (h2 : n ≤ 20) (hp : PotOk m ds) (hm : m + 100 < 2 ^ 40) : ∃ (P' : List (Int × Int)) (ds' : List D) (b9' b10' : B), OkP L P' ∧ PotOk (m + 4) ds' ∧ tPut (RS ds n cs r L b4 b5 b6 b7 (.ow false (P.map dSh)) b9 b10 b11) = .nx (RS ds' n cs r L b4 b5 b6 b7 (.ow false (P'.map dSh)) b9' b10' b11) := by
  have hne := ne_sh P
  cases P with
  | nil =>
    have hne : dNe (.lst (([] : List (Int × Int)).map dSh)) (.lst []) = some (.bl false) := hne
    refine ⟨[], ds, b9, b10, hP, hp.mono (by omega), ?_⟩
    unfold tPut RS
    generalize ([] : List (Int × Int)).map dSh = z at hne ⊢
    simp [hne]
  | cons s0 S =>
    obtain ⟨hPl, hPv⟩ := hP
    have hne : dNe (.lst ((s0 :: S).map dSh)) (.lst []) = some (.bl true) := hne
    obtain ⟨v, ds1, x1, x2, pp1, f1⟩ := e_take (u := ((s0 :: S).length : Int)) hp (by omega) (by simp) (by omega)
    obtain ⟨o, ds2, o1, o2, pp2, f2⟩ := e_take (u := n) pp1 (by omega) (by omega) (by omega)
    obtain ⟨w, ds3, w1, w2, pp3, f3⟩ := e_take (u := 5) pp2 (by omega) (by decide) (by decide)
    obtain ⟨k, rfl⟩ : ∃ k : Nat, v = k := ⟨v.toNat, by omega⟩
    have hk : k < (s0 :: S).length := by omega
    have hkk := List.getElem?_eq_getElem hk
    generalize hsk : (s0 :: S)[k] = sk at hkk
    obtain ⟨i, d, ds4, e4, pp4, f4⟩ := e_law_of (xs := [dSh sk, dSh (o, o + 1 + w)]) pp3 (by omega) (by simp) (by simp)
    obtain ⟨s', hs', hd⟩ : ∃ s' : Int × Int, (0 ≤ s'.1 ∧ s'.1 < s'.2 ∧ s'.2 ≤ 400) ∧ d = dSh s' := by
      match i, e4 with
      | 0, e4 => cases e4; exact ⟨sk, hPv _ (List.mem_of_getElem? hkk), rfl⟩
      | 1, e4 => cases e4; exact ⟨(o, o + 1 + w), ⟨o1, (show o < o + 1 + w by omega), (show o + 1 + w ≤ 400 by omega)⟩, rfl⟩
      | i + 2, e4 => simp at e4
    subst hd
    refine ⟨(s0 :: S).set k s', ds4, .va (.int k), .va (.int o), ⟨by rw [List.length_set]; exact hPl, fun s hs => ?_⟩, pp4, ?_⟩
    · rcases List.mem_or_eq_of_mem_set hs with q | q
      · exact hPv s q
      · rw [q]; exact hs'
    · have hx := (ix_P hkk).2
      have hlen : dLen [.lst ((s0 :: S).map dSh)] = some (.int ((s0 :: S).length : Int)) := by rw [r_lenL, List.length_map]
      have hixN : ixN ((s0 :: S).map dSh).length (k : Int) = some k := by
        rw [List.length_map]
        unfold ixN
        rw [if_pos (by omega), if_pos (by omega)]
        simp
      have hset : ((s0 :: S).map dSh).set k (dSh s') = ((s0 :: S).set k s').map dSh := by rw [List.map_set]
      have x0 := film0 (n := n) (cs := cs)
      rw [← hset]
      generalize hz : (s0 :: S).map dSh = z at hne hlen hx hixN ⊢
      generalize ((s0 :: S).length : Int) = len at hlen f1
      have ca : ∀ b9 b10 : B, eCallB 0 F__law_take (aCons (eBlt dLen (aCons (eSlotW 8) aNil)) aNil) (RS ds n cs r L b4 b5 b6 b7 (.ow false z) b9 b10 b11) = .ok (.int k, RS ds1 n cs r L b4 b5 b6 b7 (.ow false z) b9 b10 b11) := fun b9 b10 =>
        eCallB_eq (Fn := F__law_take) (j := 0) (args := [.int len]) rfl (by unfold RS; simp [hlen]) f1
      have cb : ∀ b9 b10 : B, eCallB 0 F__law_take (aCons (eOp dIx (eSlot 1) (eC (.int 0))) aNil) (RS ds1 n cs r L b4 b5 b6 b7 (.ow false z) b9 b10 b11) = .ok (.int o, RS ds2 n cs r L b4 b5 b6 b7 (.ow false z) b9 b10 b11) := fun b9 b10 =>
        eCallB_eq (Fn := F__law_take) (j := 0) (args := [.int n]) rfl (by unfold RS; generalize film n cs = zf at x0 ⊢; simp [x0]) f2
      have cc : eCallB 0 F__law_take (aCons (eC (.int 5)) aNil) (RS ds2 n cs r L b4 b5 b6 b7 (.ow false z) (.va (.int k)) (.va (.int o)) b11) = .ok (.int w, RS ds3 n cs r L b4 b5 b6 b7 (.ow false z) (.va (.int k)) (.va (.int o)) b11) := eCallB_eq (Fn := F__law_take) (j := 0) rfl rfl f3
      have cd : eCallB 0 F__law_of (aCons (eO (oLst (aCons (eOp dIx (eSlotW 8) (eSlot 9)) (aCons (eTup (aCons (eSlot 10) (aCons (eBlt dInt (aCons (eOp dAdd (eOp dAdd (eSlot 10) (eC (.int 1))) (eCallB 0 F__law_take (aCons (eC (.int 5)) aNil))) aNil)) aNil))) aNil)))) aNil) (RS ds2 n cs r L b4 b5 b6 b7 (.ow false z) (.va (.int k)) (.va (.int o)) b11) = .ok (dSh s', RS ds4 n cs r L b4 b5 b6 b7 (.ow false z) (.va (.int k)) (.va (.int o)) b11) := by
        refine eCallB_eq2 (Fn := F__law_of) (j := 0) (ρ1 := RS ds3 n cs r L b4 b5 b6 b7 (.ow false z) (.va (.int k)) (.va (.int o)) b11) (args := [.lst [dSh sk, dSh (o, o + 1 + w)]]) rfl ?_ rfl f4
        generalize eCallB 0 F__law_take (aCons (eC (.int 5)) aNil) = x3 at cc ⊢
        unfold RS at cc ⊢
        have e2 : dSh (o, o + 1 + w) = .tup [.int o, .int (o + 1 + w)] := rfl
        rw [e2]
        generalize film n cs = zf at cc ⊢
        generalize dRu r = zr at cc ⊢
        generalize dL L = zl at cc ⊢
        generalize dSh sk = zk at hx ⊢
        generalize (k : Int) = ki at cc hx ⊢
        simp [cc, hx, -r_ixL]
      have g1 : (sSet 9 (eCallB 0 F__law_take (aCons (eBlt dLen (aCons (eSlotW 8) aNil)) aNil))) (RS ds n cs r L b4 b5 b6 b7 (.ow false z) b9 b10 b11) = .nx (RS ds1 n cs r L b4 b5 b6 b7 (.ow false z) (.va (.int k)) b10 b11) := by
        rw [r_sSet, ca]
        rfl
      have g2 : (sSet 10 (eBlt dInt (aCons (eCallB 0 F__law_take (aCons (eOp dIx (eSlot 1) (eC (.int 0))) aNil)) aNil))) (RS ds1 n cs r L b4 b5 b6 b7 (.ow false z) (.va (.int k)) b10 b11) = .nx (RS ds2 n cs r L b4 b5 b6 b7 (.ow false z) (.va (.int k)) (.va (.int o)) b11) := by
        rw [r_sSet, r_eBlt, r_aCons, cb]
        rfl
      have g3 : (sPut 8 (eSlot 9) (eCallB 0 F__law_of (aCons (eO (oLst (aCons (eOp dIx (eSlotW 8) (eSlot 9)) (aCons (eTup (aCons (eSlot 10) (aCons (eBlt dInt (aCons (eOp dAdd (eOp dAdd (eSlot 10) (eC (.int 1))) (eCallB 0 F__law_take (aCons (eC (.int 5)) aNil))) aNil)) aNil))) aNil)))) aNil))) (RS ds2 n cs r L b4 b5 b6 b7 (.ow false z) (.va (.int k)) (.va (.int o)) b11) = .nx (RS ds4 n cs r L b4 b5 b6 b7 (.ow false (z.set k (dSh s'))) (.va (.int k)) (.va (.int o)) b11) := by
        rw [r_sPut, cd, r_sRs_ok]
        have a8 : atOw 8 (RS ds4 n cs r L b4 b5 b6 b7 (.ow false z) (.va (.int k)) (.va (.int o)) b11) = .ok (false, z) := rfl
        have a9 : eSlot 9 (RS ds4 n cs r L b4 b5 b6 b7 (.ow false z) (.va (.int k)) (.va (.int o)) b11) = .ok (.int k, RS ds4 n cs r L b4 b5 b6 b7 (.ow false z) (.va (.int k)) (.va (.int o)) b11) := rfl
        simp only [a8, a9, r_sRs_ok, hixN]
        rfl
      have gc : (bV (eOp dNe (eSlotW 8) (eO (oLst aNil)))) (RS ds n cs r L b4 b5 b6 b7 (.ow false z) b9 b10 b11) = .ok (true, RS ds n cs r L b4 b5 b6 b7 (.ow false z) b9 b10 b11) := by
        unfold RS
        simp [hne]
      unfold tPut
      rw [r_sIf, gc, r_sRs_ok]
      exact (seq_nx g1).trans ((seq_nx g2).trans g3)
theorem repr_wr_all : ∀ k < 8, (reprD (.tup [.int ((k : Nat) : Int), .str "unfit"])).isSome = true ∧ (reprD (.tup [.int ((k : Nat) : Int), .str "near"])).isSome = true := by decide +kernel
theorem repr_non' : ∃ s, reprD .non = some s := ⟨_, repr_small rfl (by simp [nodes]) (by simp [dP, PyData.depth])⟩
theorem wrong_pl : ∀ (L : List Ln) (S : List (Int × Int)) (pv : Option Int) (p q : Nat) (k : Bool), wrongP n cs r pv p L S = some (q, k) → q < p + L.length
  | [], _, _, _, _, _, h => by unfold wrongP at h; cases h
  | _ :: _, [], _, _, _, _, h => by unfold wrongP at h; cases h
  | l :: L, s :: S, pv, p, q, k, h => by
    unfold wrongP at h
    split at h
    · split at h
      · cases h; simp
      · have := wrong_pl L S (some s.2) (p + 1) q k h
        simp; omega
    · cases h; simp
theorem repr_dWr (o : Option (Nat × Bool)) (h : ∀ q k, o = some (q, k) → q < 8) : ∃ s, reprD (dWr o) = some s := by
  match o, h with
  | none, _ => exact repr_non'
  | some (q, true), h => exact Option.isSome_iff_exists.mp (repr_wr_all q (h q true rfl)).1
  | some (q, false), h => exact Option.isSome_iff_exists.mp (repr_wr_all q (h q false rfl)).2
theorem q6b {m : Nat} (hf : OkF n cs) (hr : OkR r) (hL : OkL n L) (hl5 : L.length ≤ 5) (hk : ∀ l ∈ L, l.2.2 ≤ 5) (h1 : 4 ≤ n) (h2 : n ≤ 20) (hp : PotOk m ds) (hm : m + 100 < 2 ^ 40) : ∃ (ds' : List D) (b8' b9' b10' b11' : B), PotOk (m + 4) ds' ∧ b__law_right_2 (RS ds n cs r L b4 (.va (soonD n cs r L)) b6 b7 b8 b9 b10 b11) = .nx (RS ds' n cs r L b4 (.va (soonD n cs r L)) b6 b7 b8' b9' b10' b11') := by
  obtain ⟨P0, hP0, g1⟩ := p1 (ds := ds) (r := r) (b4 := b4) (b6 := b6) (b7 := b7) (b8 := b8) (b9 := b9) (b10 := b10) (b11 := b11) hf hL hk h2
  obtain ⟨P, ds1, b9', b10', hP, pp, g2⟩ := p2 (n := n) (cs := cs) (r := r) (b4 := b4) (b5 := .va (soonD n cs r L)) (b6 := b6) (b7 := b7) (b9 := b9) (b10 := b10) (b11 := b11) hP0 hL.len h1 h2 hp hm
  obtain ⟨hPl, hPv⟩ := hP
  have c3 := eCall_eq (Fn := F__law_wrong) (a := (aCons (eSlot 1) (aCons (eSlot 3) (aCons (eSlot 2) (aCons (eSlot 8) aNil))))) (ρ := RS ds1 n cs r L b4 (.va (soonD n cs r L)) b6 b7 (.va (.lst (P.map dSh))) b9' b10' b11) (ρ1 := RS ds1 n cs r L b4 (.va (soonD n cs r L)) b6 b7 (.va (.lst (P.map dSh))) b9' b10' b11) (ds := [film n cs, dL L, dRu r, .lst (P.map dSh)]) rfl (e_law_wrong (r := r) hf.len hPl)
  have g3 : (sFz 8 (sSet 11 (eCall F__law_wrong (aCons (eSlot 1) (aCons (eSlot 3) (aCons (eSlot 2) (aCons (eSlot 8) aNil))))))) (RS ds1 n cs r L b4 (.va (soonD n cs r L)) b6 b7 (.ow false (P.map dSh)) b9' b10' b11) = .nx (RS ds1 n cs r L b4 (.va (soonD n cs r L)) b6 b7 (.va (.lst (P.map dSh))) b9' b10' (.va (dWr (wrongP n cs r none 0 L P)))) := by
    have e : fzB 8 (RS ds1 n cs r L b4 (.va (soonD n cs r L)) b6 b7 (.ow false (P.map dSh)) b9' b10' b11) = RS ds1 n cs r L b4 (.va (soonD n cs r L)) b6 b7 (.va (.lst (P.map dSh))) b9' b10' b11 := rfl
    rw [r_sFz, e, r_sSet, c3]
    rfl
  have aT : (aCons (eBlt dTuple (aCons (eSlotW 8) aNil)) (aCons (eSlot 2) (aCons (eSlot 3) (aCons (eSlot 1) aNil)))) (RS ds1 n cs r L b4 (.va (soonD n cs r L)) b6 b7 (.va (.lst (P.map dSh))) b9' b10' (.va (dWr (wrongP n cs r none 0 L P)))) = .ok ([.tup (P.map dSh), dRu r, dL L, film n cs], RS ds1 n cs r L b4 (.va (soonD n cs r L)) b6 b7 (.va (.lst (P.map dSh))) b9' b10' (.va (dWr (wrongP n cs r none 0 L P)))) := rfl
  have c4 := eCallK_eq (Fn := F_plan_wrong) (idx := [3, 2, 1, 0]) (es := [film n cs, dL L, dRu r, .tup (P.map dSh)]) aT rfl (e_plan_wrong hf hr hL hPv hPl)
  have c5 := eCallK_eq (Fn := F_is_right) (idx := [3, 2, 1, 0]) (es := [film n cs, dL L, dRu r, .tup (P.map dSh)]) aT rfl (e_is_right hf hr hL hPv hPl)
  obtain ⟨s1, hs1⟩ := repr_dWr (wrongP n cs r none 0 L P) (fun q k e => by have := wrong_pl L P none 0 q k e; omega)
  have hn1 := (repr_same hs1).1
  obtain ⟨s2, hs2⟩ := repr_bl (wrongP n cs r none 0 L P).isNone
  have hn2 := (repr_same hs2).1
  have hi := is_dWr (wrongP n cs r none 0 L P)
  have s11 : (RS ds1 n cs r L b4 (.va (soonD n cs r L)) b6 b7 (.va (.lst (P.map dSh))) b9' b10' (.va (dWr (wrongP n cs r none 0 L P))))[11]? = some (.va (dWr (wrongP n cs r none 0 L P))) := rfl
  refine ⟨ds1, .va (.lst (P.map dSh)), b9', b10', .va (dWr (wrongP n cs r none 0 L P)), pp, ?_⟩
  · unfold b__law_right_2
    refine (seq_nx g1).trans ((seq_nx g2).trans ((seq_nx g3).trans ?_))
    generalize eCallK F_plan_wrong [3, 2, 1, 0] (aCons (eBlt dTuple (aCons (eSlotW 8) aNil)) (aCons (eSlot 2) (aCons (eSlot 3) (aCons (eSlot 1) aNil)))) = x4 at c4 ⊢
    generalize eCallK F_is_right [3, 2, 1, 0] (aCons (eBlt dTuple (aCons (eSlotW 8) aNil)) (aCons (eSlot 2) (aCons (eSlot 3) (aCons (eSlot 1) aNil)))) = x5 at c5 ⊢
    generalize hρ : RS ds1 n cs r L b4 (.va (soonD n cs r L)) b6 b7 (.va (.lst (P.map dSh))) b9' b10' (.va (dWr (wrongP n cs r none 0 L P))) = ρ at c4 c5 s11 ⊢
    generalize dWr (wrongP n cs r none 0 L P) = zw at c4 hs1 hi s11
    generalize (wrongP n cs r none 0 L P).isNone = kk at c5 hs2 hi
    have fin : sIf (bOr (bV (eOp dNe (eBlt dRepr (aCons x4 aNil)) (eBlt dRepr (aCons (eSlot 11) aNil)))) (bV (eOp dNe (eBlt dRepr (aCons x5 aNil)) (eBlt dRepr (aCons (eOp dIs (eSlot 11) (eC .non)) aNil))))) (sRet (eC (.bl false))) sNx ρ = .nx ρ := by
      simp [c4, c5, s11, hs1, hn1, hi, hs2, hn2]
    rw [fin, ← hρ]
theorem q6 {m : Nat} (hf : OkF n cs) (hr : OkR r) (hL : OkL n L) (hl5 : L.length ≤ 5) (hk : ∀ l ∈ L, l.2.2 ≤ 5) (h1 : 4 ≤ n) (h2 : n ≤ 20) (hp : PotOk m ds) (hm : m + 200 < 2 ^ 40) : ∃ (ds' : List D) (b7' b8' b9' b10' b11' : B), PotOk (m + 12) ds' ∧ t__law_right_6 (RS ds n cs r L b4 (.va (soonD n cs r L)) b6 b7 b8 b9 b10 b11) = .nx (RS ds' n cs r L b4 (.va (soonD n cs r L)) b6 b7' b8' b9' b10' b11') := by
  obtain ⟨ρ', g1, g2⟩ := forGo_n (tg := gN 7) (body := b__law_right_2) (fun k (_ : Unit) ρ => ∃ ds' b7' b8' b9' b10' b11', PotOk (m + 4 * k) ds' ∧ ρ = RS ds' n cs r L b4 (.va (soonD n cs r L)) b6 b7' b8' b9' b10' b11') (fun (i : Nat) => D.int (i : Int)) (fun _ _ => ()) (List.range 3) 0 () (RS ds n cs r L b4 (.va (soonD n cs r L)) b6 b7 b8 b9 b10 b11) ⟨_, _, _, _, _, _, by simpa using hp, rfl⟩ (by
    rintro a ha k s ρ hj ⟨ds', b7', b8', b9', b10', b11', hp', rfl⟩
    rw [List.length_range] at hj
    obtain ⟨ds2, b8'', b9'', b10'', b11'', hp2, hb⟩ := q6b (r := r) (b4 := b4) (b6 := b6) (b7 := .va (.int (a : Int))) (b8 := b8') (b9 := b9') (b10 := b10') (b11 := b11') hf hr hL hl5 hk h1 h2 hp' (by omega)
    exact ⟨[(7, .int (a : Int))], _, rfl, hb, _, _, _, _, _, _, hp2.mono (by omega), rfl⟩)
  obtain ⟨ds', b7', b8', b9', b10', b11', hp', rfl⟩ := g2
  refine ⟨ds', b7', b8', b9', b10', b11', by simpa using hp', ?_⟩
  have it := it_goF (f := (eC (.int 3))) (ρ := RS ds n cs r L b4 (.va (soonD n cs r L)) b6 b7 b8 b9 b10 b11) (ρ1 := RS ds n cs r L b4 (.va (soonD n cs r L)) b6 b7 b8 b9 b10 b11) (k := 3) (by decide) rfl
  unfold t__law_right_6
  rw [r_sFor, it, r_sRs_ok]
  exact g1
theorem e_law_right {m : Nat} (hp : PotOk m ds) (hm : m + 2000 < 2 ^ 40) : ∃ ds', PotOk (m + 300) ds' ∧ F__law_right [.ow true ds] = .ok (.bl true, [.ow true ds']) := by
  obtain ⟨n, cs, r, ds1, n1, n2, hf, hr, p1', f1⟩ := q1 hp (by omega)
  obtain ⟨L, ds2, hL, hl5, hk, p2', f2⟩ := q2 (cs := cs) (r := r) p1' (by omega) n1 n2
  have f3 := q3 (ds := ds2) hf hr hL
  have f4 := q4 (ds := ds2) (b6 := .un) (b7 := .un) (b8 := .un) (b9 := .un) (b10 := .un) (b11 := .un) hf hr hL
  obtain ⟨b6', ds3, p3', f5⟩ := q5 (b5 := .va (soonD n cs r L)) (b6 := .un) (b7 := .un) (b8 := .un) (b9 := .un) (b10 := .un) (b11 := .un) hf hr hL p2' (by omega)
  obtain ⟨ds4, b7', b8', b9', b10', b11', p4', f6⟩ := q6 (r := r) (b4 := .va (paperD n cs r L)) (b6 := b6') (b7 := .un) (b8 := .un) (b9 := .un) (b10 := .un) (b11 := .un) hf hr hL hl5 hk n1 n2 p3' (by omega)
  refine ⟨ds4, p4'.mono (by omega), ?_⟩
  have h5 : g__law_right ([.ow true ds] ++ List.replicate 12 .un) = .rt (.bl true) (RS ds4 n cs r L (.va (paperD n cs r L)) (.va (soonD n cs r L)) b6' b7' b8' b9' b10' b11') := (seq_nx f1).trans ((seq_nx f2).trans ((seq_nx f3).trans ((seq_nx f4).trans ((seq_nx f5).trans ((seq_nx f6).trans rfl)))))
  exact call_of rfl h5 rfl
end My
namespace My
open PySem PySem.Spec PyProof.Rows L2 RT
theorem e_cells (ns : List Int) : ∃ k : Nat, k ≤ 3 ∧ F__law_cells [.va (.lst (ns.map D.int)), .va (.int 3)] = .ok (.lst (((List.range k).map fun (i : Nat) => (i : Int)).map D.int), [.va (.lst (ns.map D.int)), .va (.int 3)]) := by
  obtain ⟨k, hk, e⟩ : ∃ k : Nat, k ≤ 3 ∧ (if (if (ns.length : Int) < 3 then (ns.length : Int) else 3) > 1 then (if (ns.length : Int) < 3 then (ns.length : Int) else 3) else 1) = k := by
    refine ⟨(if (if (ns.length : Int) < 3 then (ns.length : Int) else 3) > 1 then (if (ns.length : Int) < 3 then (ns.length : Int) else 3) else 1).toNat, ?_, ?_⟩
    · split <;> split <;> omega
    · split <;> split <;> omega
  refine ⟨k, hk, ?_⟩
  have h1 : rgD 0 (k : Int) = some (((List.range k).map fun (i : Nat) => (i : Int)).map D.int) := by
    unfold rgD
    rw [if_pos (by omega)]
    simp
  refine call_of (ρ' := [.va (.lst (ns.map D.int)), .va (.int 3)]) rfl ?_ rfl
  have a1 : eBlt dMaxB (aCons (eC (.int 1)) (aCons (eBlt dMinB (aCons (eSlot 1) (aCons (eBlt dLen (aCons (eSlot 0) aNil)) aNil))) aNil)) [.va (.lst (ns.map D.int)), .va (.int 3)] = .ok (.int (k : Int), [.va (.lst (ns.map D.int)), .va (.int 3)]) := by
    rw [← e]
    simp
  show sRet (eO (oRg1 _)) [.va (.lst (ns.map D.int)), .va (.int 3)] = _
  rw [r_sRet, r_eO, r_oRg1, a1, Rs.ok_bind]
  generalize rgD 0 (k : Int) = z at h1
  show sRs (((ofO (rgD 0 (k : Int))).bind _).bind _) _ = _
  rw [show rgD 0 (k : Int) = some (((List.range k).map fun (i : Nat) => (i : Int)).map D.int) from by
    unfold rgD
    rw [if_pos (by omega)]
    simp]
  rfl
theorem e_laps (S : D) (j : Int) {ds : List D} (hp : PotOk 0 ds) : ∃ ds', c_law_1 [.va S, .va (.int j), .ow false ds, .un] = .ok ((List.replicate 3 true).map D.bl, [.va S, .va (.int j), .ow false ds', .un]) := by
  obtain ⟨bs, ds', q1, q2, q3, q4⟩ := oLc_st (it := (iRange1 (eC (.int 3)))) (tg := gN 3) (te := (eCallB 2 F__law_right aNil)) (vs := [3]) (ρ := [.va S, .va (.int j), .ow false ds, .un]) (ρ1 := [.va S, .va (.int j), .ow false ds, .un])
    (fun k s => PotOk (300 * k) s) (fun s => [.va S, .va (.int j), .ow false s, .un]) D.int D.bl (fun _ b => b = true) ((List.range 3).map fun (i : Nat) => (i : Int)) 0 ds hp (it_go (k := 3) (by decide) (by rfl)) (by rfl) (by rfl) (by
      intro a _ k s _ hk hI
      simp at hk
      obtain ⟨s', p', f⟩ := e_law_right hI (by omega)
      exact ⟨[(3, .int a)], true, s', [.va S, .va (.int j), .ow false s', .va (.int a)], rfl, by simp [f], by simp, PotOk.mono p' (by omega), rfl⟩) (by rw [sizeLine_eq]; simp)
  have hb : bs = List.replicate 3 true := by
    have hl : bs.length = 3 := by rw [q3]; rfl
    rw [List.eq_replicate_iff]
    refine ⟨hl, fun b hb => ?_⟩
    obtain ⟨i, hi⟩ := List.getElem?_of_mem hb
    have hlt := (List.getElem?_eq_some_iff.mp hi).1
    rw [hl] at hlt
    exact q4 i i b (by rw [List.getElem?_map, List.getElem?_range hlt]; rfl) hi
  refine ⟨ds', ?_⟩
  unfold c_law_1
  rw [q1, hb]
  rfl
theorem e_law (ns : List Int) : ∃ r, F_law [.va (.lst (ns.map D.int))] = .ok (.bl true, r) := by
  obtain ⟨k, hk, hc⟩ := e_cells ns
  obtain ⟨ρ', h1, h2⟩ := forGo_n (tg := gN 1) (body := b_law_1) (fun j (_ : Unit) ρ => ∃ b1 b2, ρ = [.va (.lst (ns.map D.int)), b1, b2, .un]) D.int (fun _ _ => ()) ((List.range k).map fun (i : Nat) => (i : Int)) 0 () [.va (.lst (ns.map D.int)), .un, .un, .un] ⟨_, _, rfl⟩ (by
    rintro a ha j _ ρ _ ⟨b1, b2, rfl⟩
    simp at ha
    obtain ⟨i, hi, rfl⟩ := ha
    obtain ⟨ds, p, f⟩ := e_pot ns (k := (i : Int)) (by omega) (by omega)
    obtain ⟨ds', g⟩ := e_laps (.lst (ns.map D.int)) (i : Int) p
    have ha : dAll [.lst ((List.replicate 3 true).map D.bl)] = some (.bl true) := by rw [r_allL]; rfl
    have f1 : sSetO 2 (oCall F__law_pot (aCons (eSlot 0) (aCons (eSlot 1) aNil))) [.va (.lst (ns.map D.int)), .va (.int i), b2, .un] = .nx [.va (.lst (ns.map D.int)), .va (.int i), .ow false ds, .un] := by
      simp [f]
    refine ⟨[(1, .int i)], [.va (.lst (ns.map D.int)), .va (.int i), .ow false ds', .un], rfl, ?_, _, _, rfl⟩
    show b_law_1 [.va (.lst (ns.map D.int)), .va (.int i), b2, .un] = _
    unfold b_law_1
    rw [seq_nx f1]
    generalize (List.replicate 3 true).map D.bl = z at g ha
    simp [g, ha])
  obtain ⟨b1, b2, rfl⟩ := h2
  refine ⟨_, call_of (ρ' := [.va (.lst (ns.map D.int)), b1, b2, .un]) rfl ?_ rfl⟩
  show sSeq t_law_1 t_law_2 [.va (.lst (ns.map D.int)), .un, .un, .un] = _
  have t1 : t_law_1 [.va (.lst (ns.map D.int)), .un, .un, .un] = .nx [.va (.lst (ns.map D.int)), b1, b2, .un] := by
    unfold t_law_1
    rw [r_sFor]
    have e1 : eCall F__law_cells (aCons (eSlot 0) (aCons (eC (.int 3)) aNil)) [.va (.lst (ns.map D.int)), .un, .un, .un] = .ok (.lst (((List.range k).map fun (i : Nat) => (i : Int)).map D.int), [.va (.lst (ns.map D.int)), .un, .un, .un]) := eCall_eq (ds := [.lst (ns.map D.int), .int 3]) rfl hc
    rw [r_iSeq, e1, Rs.ok_bind]
    exact h1
  exact (seq_nx t1).trans rfl
end My
namespace My
open PySem PySem.Spec PyProof.Rows L2 RT
def d__law_cells : He.DefD := ⟨("_law_cells", none), "_law_cells", "_law_cells", defArgs s__law_cells, defBody s__law_cells, defScope s__law_cells, [], []⟩
def d__law_pot : He.DefD := ⟨("_law_pot", none), "_law_pot", "_law_pot", defArgs s__law_pot, defBody s__law_pot, defScope s__law_pot, [], []⟩
def d__law_take : He.DefD := ⟨("_law_take", none), "_law_take", "_law_take", defArgs s__law_take, defBody s__law_take, defScope s__law_take, [], []⟩
def d__law_film : He.DefD := ⟨("_law_film", none), "_law_film", "_law_film", defArgs s__law_film, defBody s__law_film, defScope s__law_film, [], []⟩
def d__law_rules : He.DefD := ⟨("_law_rules", none), "_law_rules", "_law_rules", defArgs s__law_rules, defBody s__law_rules, defScope s__law_rules, [], []⟩
def d__law_lines : He.DefD := ⟨("_law_lines", none), "_law_lines", "_law_lines", defArgs s__law_lines, defBody s__law_lines, defScope s__law_lines, [], []⟩
def d_is_integer : He.DefD := ⟨("is_integer", none), "is_integer", "is_integer", defArgs s_is_integer, defBody s_is_integer, defScope s_is_integer, [], []⟩
def d_is_between : He.DefD := ⟨("is_between", none), "is_between", "is_between", defArgs s_is_between, defBody s_is_between, defScope s_is_between, [], []⟩
def d_are_between : He.DefD := ⟨("are_between", none), "are_between", "are_between", defArgs s_are_between, defBody s_are_between, defScope s_are_between, [], []⟩
def d_is_ascending : He.DefD := ⟨("is_ascending", none), "is_ascending", "is_ascending", defArgs s_is_ascending, defBody s_is_ascending, defScope s_is_ascending, [], []⟩
def d_is_film : He.DefD := ⟨("is_film", none), "is_film", "is_film", defArgs s_is_film, defBody s_is_film, defScope s_is_film, [], []⟩
def d_check_film : He.DefD := ⟨("check_film", none), "check_film", "check_film", defArgs s_check_film, defBody s_check_film, defScope s_check_film, [], []⟩
def d_is_line : He.DefD := ⟨("is_line", none), "is_line", "is_line", defArgs s_is_line, defBody s_is_line, defScope s_is_line, [], []⟩
def d_are_lines_of : He.DefD := ⟨("are_lines_of", none), "are_lines_of", "are_lines_of", defArgs s_are_lines_of, defBody s_are_lines_of, defScope s_are_lines_of, [], []⟩
def d_check_lines : He.DefD := ⟨("check_lines", none), "check_lines", "check_lines", defArgs s_check_lines, defBody s_check_lines, defScope s_check_lines, [], []⟩
def d_check_rules : He.DefD := ⟨("check_rules", none), "check_rules", "check_rules", defArgs s_check_rules, defBody s_check_rules, defScope s_check_rules, [], []⟩
def d_ons_of : He.DefD := ⟨("ons_of", none), "ons_of", "ons_of", defArgs s_ons_of, defBody s_ons_of, defScope s_ons_of, [], []⟩
def d_last_off : He.DefD := ⟨("last_off", none), "last_off", "last_off", defArgs s_last_off, defBody s_last_off, defScope s_last_off, [], []⟩
def d_shows_from : He.DefD := ⟨("shows_from", none), "shows_from", "shows_from", defArgs s_shows_from, defBody s_shows_from, defScope s_shows_from, [], []⟩
def d_first_from : He.DefD := ⟨("first_from", none), "first_from", "first_from", defArgs s_first_from, defBody s_first_from, defScope s_first_from, [], []⟩
def d_told_of : He.DefD := ⟨("told_of", none), "told_of", "told_of", defArgs s_told_of, defBody s_told_of, defScope s_told_of, [], []⟩
def d_paper_of : He.DefD := ⟨("paper_of", none), "paper_of", "paper_of", defArgs s_paper_of, defBody s_paper_of, defScope s_paper_of, [], []⟩
def d_can_told : He.DefD := ⟨("can_told", none), "can_told", "can_told", defArgs s_can_told, defBody s_can_told, defScope s_can_told, [], []⟩
def d__law_fits : He.DefD := ⟨("_law_fits", none), "_law_fits", "_law_fits", defArgs s__law_fits, defBody s__law_fits, defScope s__law_fits, [], []⟩
def d__law_shows : He.DefD := ⟨("_law_shows", none), "_law_shows", "_law_shows", defArgs s__law_shows, defBody s__law_shows, defScope s__law_shows, [], []⟩
def d__law_early : He.DefD := ⟨("_law_early", none), "_law_early", "_law_early", defArgs s__law_early, defBody s__law_early, defScope s__law_early, [], []⟩
def d__law_is_plan : He.DefD := ⟨("_law_is_plan", none), "_law_is_plan", "_law_is_plan", defArgs s__law_is_plan, defBody s__law_is_plan, defScope s__law_is_plan, [], []⟩
def d__law_is_full : He.DefD := ⟨("_law_is_full", none), "_law_is_full", "_law_is_full", defArgs s__law_is_full, defBody s__law_is_full, defScope s__law_is_full, [], []⟩
def d__law_is_due : He.DefD := ⟨("_law_is_due", none), "_law_is_due", "_law_is_due", defArgs s__law_is_due, defBody s__law_is_due, defScope s__law_is_due, [], []⟩
def d__law_values : He.DefD := ⟨("_law_values", none), "_law_values", "_law_values", defArgs s__law_values, defBody s__law_values, defScope s__law_values, [], []⟩
def d_are_shown : He.DefD := ⟨("are_shown", none), "are_shown", "are_shown", defArgs s_are_shown, defBody s_are_shown, defScope s_are_shown, [], []⟩
def d_is_full : He.DefD := ⟨("is_full", none), "is_full", "is_full", defArgs s_is_full, defBody s_is_full, defScope s_is_full, [], []⟩
def d_is_show : He.DefD := ⟨("is_show", none), "is_show", "is_show", defArgs s_is_show, defBody s_is_show, defScope s_is_show, [], []⟩
def d_is_plan_of : He.DefD := ⟨("is_plan_of", none), "is_plan_of", "is_plan_of", defArgs s_is_plan_of, defBody s_is_plan_of, defScope s_is_plan_of, [], []⟩
def d_is_cut : He.DefD := ⟨("is_cut", none), "is_cut", "is_cut", defArgs s_is_cut, defBody s_is_cut, defScope s_is_cut, [], []⟩
def d_suits : He.DefD := ⟨("suits", none), "suits", "suits", defArgs s_suits, defBody s_suits, defScope s_suits, [], []⟩
def d_wrong_of : He.DefD := ⟨("wrong_of", none), "wrong_of", "wrong_of", defArgs s_wrong_of, defBody s_wrong_of, defScope s_wrong_of, [], []⟩
def d_shows_can : He.DefD := ⟨("shows_can", none), "shows_can", "shows_can", defArgs s_shows_can, defBody s_shows_can, defScope s_shows_can, [], []⟩
def d__law_of : He.DefD := ⟨("_law_of", none), "_law_of", "_law_of", defArgs s__law_of, defBody s__law_of, defScope s__law_of, [], []⟩
def d__law_wrong : He.DefD := ⟨("_law_wrong", none), "_law_wrong", "_law_wrong", defArgs s__law_wrong, defBody s__law_wrong, defScope s__law_wrong, [], []⟩
def d_check_plan : He.DefD := ⟨("check_plan", none), "check_plan", "check_plan", defArgs s_check_plan, defBody s_check_plan, defScope s_check_plan, [], []⟩
def d_plan_wrong : He.DefD := ⟨("plan_wrong", none), "plan_wrong", "plan_wrong", defArgs s_plan_wrong, defBody s_plan_wrong, defScope s_plan_wrong, [], []⟩
def d_is_right : He.DefD := ⟨("is_right", none), "is_right", "is_right", defArgs s_is_right, defBody s_is_right, defScope s_is_right, [], []⟩
def d__law_right : He.DefD := ⟨("_law_right", none), "_law_right", "_law_right", defArgs s__law_right, defBody s__law_right, defScope s__law_right, [], []⟩
def d_law : He.DefD := ⟨("law", none), "law", "law", defArgs s_law, defBody s_law, defScope s_law, [], []⟩
def fn_0 : List He.DefD := [d__law_cells, d__law_pot, d__law_take, d__law_film, d__law_rules, d__law_lines, d_is_integer, d_is_between, d_are_between, d_is_ascending, d_is_film, d_check_film, d_is_line, d_are_lines_of, d_check_lines, d_check_rules, d_ons_of, d_last_off, d_shows_from, d_first_from, d_told_of, d_paper_of, d_can_told, d__law_fits, d__law_shows, d__law_early, d__law_is_plan, d__law_is_full, d__law_is_due, d__law_values]
def fn_1 : List He.DefD := [d_are_shown, d_is_full, d_is_show, d_is_plan_of, d_is_cut, d_suits, d_wrong_of, d_shows_can, d__law_of, d__law_wrong, d_check_plan, d_plan_wrong, d_is_right, d__law_right, d_law]
def fn : List He.DefD := fn_0 ++ fn_1
def fa_0 : List He.Fa := [.glo "_law_cells", .glo "_law_pot", .glo "_law_take", .glo "_law_film", .glo "_law_rules", .glo "_law_lines", .glo "is_integer", .glo "is_between", .glo "are_between", .glo "is_ascending", .glo "is_film", .glo "check_film", .glo "is_line", .glo "are_lines_of", .glo "check_lines", .glo "check_rules", .glo "ons_of", .glo "last_off", .glo "shows_from", .glo "first_from", .glo "told_of", .glo "paper_of", .glo "can_told", .glo "_law_fits", .glo "_law_shows", .glo "_law_early", .glo "_law_is_plan", .glo "_law_is_full", .glo "_law_is_due", .glo "_law_values"]
def fa_1 : List He.Fa := [.glo "are_shown", .glo "is_full", .glo "is_show", .glo "is_plan_of", .glo "is_cut", .glo "suits", .glo "wrong_of", .glo "shows_can", .glo "_law_of", .glo "_law_wrong", .glo "check_plan", .glo "plan_wrong", .glo "is_right", .glo "_law_right", .glo "law", .free "abs", .free "all", .free "any", .free "bool", .free "enumerate", .free "int", .free "isinstance", .free "len", .free "list", .free "max", .free "min", .free "range", .free "repr", .free "sorted", .free "str"]
def fa_2 : List He.Fa := [.free "sum", .free "tuple", .free "zip", .int "MOST_TICK" 400, .int "THREE" 3, .int "MOST_LINES" 30, .int "MOST_RULE" 100, .int "FOUR_films" 4, .str "PLAN" "plan", .str "FULL" "full", .str "UNFIT" "unfit", .str "NEAR" "near", .int "FOUR_plans" 4]
def fa : List He.Fa := fa_0 ++ fa_1 ++ fa_2
def loose_0 : List PySem.Str := ["__name__", "FilmError", "BadFilm", "BadLines", "BadPlan", "BadRules", "is_integer", "is_between", "are_between", "is_ascending", "MOST_TICK", "MOST_LINES", "MOST_RULE", "THREE", "FOUR_films", "is_film", "check_film", "is_line", "are_lines_of", "check_lines", "check_rules", "is_show", "ons_of", "last_off", "is_cut", "suits", "shows_from", "PLAN", "FULL", "UNFIT"]
def loose_1 : List PySem.Str := ["NEAR", "FOUR_plans", "is_plan_of", "check_plan", "wrong_of", "plan_wrong", "is_right", "first_from", "told_of", "paper_of", "can_told", "are_shown", "is_full", "shows_can", "_law_pot", "_law_take", "_law_of", "_law_cells", "_law_film", "_law_lines", "_law_rules", "_law_fits", "_law_shows", "_law_early", "_law_is_plan", "_law_is_full", "_law_wrong", "_law_is_due", "_law_values", "_law_right"]
def loose : List PySem.Str := loose_0 ++ loose_1
abbrev R : PySem.W.OpenRow := PySem.W.OpenLaw.row PySem.Challenge.rw_readintime_k06_whole_plans_or_full_stret
abbrev hk : PySem.W.Hook := He.hookD 4 fa fn
def ob (s : PySem.W.SharedT) : He.AlD := He.obsDG 4 fa fn (HandSHeadRun.getT s)
theorem ob_eq (s : PySem.W.SharedT) : ob s = hk.obs s.abs := He.obsDG_eq (HandSHeadRun.getT_eq s)
theorem run (w : World) : HandSHeadRun.RunEq R (PySem.W.view R.prog [65]) hk ob 3000 loose w := by
  intro os
  kernel_rfl
theorem facts {P : Program} {w : World} {K : PySem.W.Frag} {h : Heap} {mg : PySem.Str → Option Value} {f : Addr} (X : K.In h) (G : h.Ns mainGlobals mg) (hfa : mg ("law" : PySem.Str) = some (.ref f)) (c : He.SaysD fa fn K) :
    ∃ fd : FuncData, (∀ (s : Shared) (v : Value), BindsTo s fd ⟨[v], []⟩ [("script", v)]) ∧ ∀ base : Heap, K.In base → base.Ns mainGlobals mg → FnG P w K mg base CX0 11 f fd ["script"] (spF K mg F_law) := by
  obtain ⟨fd__law_cells, D__law_cells⟩ := c.def_ 0 (d := d__law_cells) rfl
  obtain ⟨fd__law_pot, D__law_pot⟩ := c.def_ 1 (d := d__law_pot) rfl
  obtain ⟨fd__law_take, D__law_take⟩ := c.def_ 2 (d := d__law_take) rfl
  obtain ⟨fd__law_film, D__law_film⟩ := c.def_ 3 (d := d__law_film) rfl
  obtain ⟨fd__law_rules, D__law_rules⟩ := c.def_ 4 (d := d__law_rules) rfl
  obtain ⟨fd__law_lines, D__law_lines⟩ := c.def_ 5 (d := d__law_lines) rfl
  obtain ⟨fd_is_integer, D_is_integer⟩ := c.def_ 6 (d := d_is_integer) rfl
  obtain ⟨fd_is_between, D_is_between⟩ := c.def_ 7 (d := d_is_between) rfl
  obtain ⟨fd_are_between, D_are_between⟩ := c.def_ 8 (d := d_are_between) rfl
  obtain ⟨fd_is_ascending, D_is_ascending⟩ := c.def_ 9 (d := d_is_ascending) rfl
  obtain ⟨fd_is_film, D_is_film⟩ := c.def_ 10 (d := d_is_film) rfl
  obtain ⟨fd_check_film, D_check_film⟩ := c.def_ 11 (d := d_check_film) rfl
  obtain ⟨fd_is_line, D_is_line⟩ := c.def_ 12 (d := d_is_line) rfl
  obtain ⟨fd_are_lines_of, D_are_lines_of⟩ := c.def_ 13 (d := d_are_lines_of) rfl
  obtain ⟨fd_check_lines, D_check_lines⟩ := c.def_ 14 (d := d_check_lines) rfl
  obtain ⟨fd_check_rules, D_check_rules⟩ := c.def_ 15 (d := d_check_rules) rfl
  obtain ⟨fd_ons_of, D_ons_of⟩ := c.def_ 16 (d := d_ons_of) rfl
  obtain ⟨fd_last_off, D_last_off⟩ := c.def_ 17 (d := d_last_off) rfl
  obtain ⟨fd_shows_from, D_shows_from⟩ := c.def_ 18 (d := d_shows_from) rfl
  obtain ⟨fd_first_from, D_first_from⟩ := c.def_ 19 (d := d_first_from) rfl
  obtain ⟨fd_told_of, D_told_of⟩ := c.def_ 20 (d := d_told_of) rfl
  obtain ⟨fd_paper_of, D_paper_of⟩ := c.def_ 21 (d := d_paper_of) rfl
  obtain ⟨fd_can_told, D_can_told⟩ := c.def_ 22 (d := d_can_told) rfl
  obtain ⟨fd__law_fits, D__law_fits⟩ := c.def_ 23 (d := d__law_fits) rfl
  obtain ⟨fd__law_shows, D__law_shows⟩ := c.def_ 24 (d := d__law_shows) rfl
  obtain ⟨fd__law_early, D__law_early⟩ := c.def_ 25 (d := d__law_early) rfl
  obtain ⟨fd__law_is_plan, D__law_is_plan⟩ := c.def_ 26 (d := d__law_is_plan) rfl
  obtain ⟨fd__law_is_full, D__law_is_full⟩ := c.def_ 27 (d := d__law_is_full) rfl
  obtain ⟨fd__law_is_due, D__law_is_due⟩ := c.def_ 28 (d := d__law_is_due) rfl
  obtain ⟨fd__law_values, D__law_values⟩ := c.def_ 29 (d := d__law_values) rfl
  obtain ⟨fd_are_shown, D_are_shown⟩ := c.def_ 30 (d := d_are_shown) rfl
  obtain ⟨fd_is_full, D_is_full⟩ := c.def_ 31 (d := d_is_full) rfl
  obtain ⟨fd_is_show, D_is_show⟩ := c.def_ 32 (d := d_is_show) rfl
  obtain ⟨fd_is_plan_of, D_is_plan_of⟩ := c.def_ 33 (d := d_is_plan_of) rfl
  obtain ⟨fd_is_cut, D_is_cut⟩ := c.def_ 34 (d := d_is_cut) rfl
  obtain ⟨fd_suits, D_suits⟩ := c.def_ 35 (d := d_suits) rfl
  obtain ⟨fd_wrong_of, D_wrong_of⟩ := c.def_ 36 (d := d_wrong_of) rfl
  obtain ⟨fd_shows_can, D_shows_can⟩ := c.def_ 37 (d := d_shows_can) rfl
  obtain ⟨fd__law_of, D__law_of⟩ := c.def_ 38 (d := d__law_of) rfl
  obtain ⟨fd__law_wrong, D__law_wrong⟩ := c.def_ 39 (d := d__law_wrong) rfl
  obtain ⟨fd_check_plan, D_check_plan⟩ := c.def_ 40 (d := d_check_plan) rfl
  obtain ⟨fd_plan_wrong, D_plan_wrong⟩ := c.def_ 41 (d := d_plan_wrong) rfl
  obtain ⟨fd_is_right, D_is_right⟩ := c.def_ 42 (d := d_is_right) rfl
  obtain ⟨fd__law_right, D__law_right⟩ := c.def_ 43 (d := d__law_right) rfl
  obtain ⟨fd_law, D_law⟩ := c.def_ 44 (d := d_law) rfl
  have n__law_cells := He.glo_ok X G (c.fact 0 (f := .glo "_law_cells") rfl)
  have n__law_pot := He.glo_ok X G (c.fact 1 (f := .glo "_law_pot") rfl)
  have n__law_take := He.glo_ok X G (c.fact 2 (f := .glo "_law_take") rfl)
  have n__law_film := He.glo_ok X G (c.fact 3 (f := .glo "_law_film") rfl)
  have n__law_rules := He.glo_ok X G (c.fact 4 (f := .glo "_law_rules") rfl)
  have n__law_lines := He.glo_ok X G (c.fact 5 (f := .glo "_law_lines") rfl)
  have n_is_integer := He.glo_ok X G (c.fact 6 (f := .glo "is_integer") rfl)
  have n_is_between := He.glo_ok X G (c.fact 7 (f := .glo "is_between") rfl)
  have n_are_between := He.glo_ok X G (c.fact 8 (f := .glo "are_between") rfl)
  have n_is_ascending := He.glo_ok X G (c.fact 9 (f := .glo "is_ascending") rfl)
  have n_is_film := He.glo_ok X G (c.fact 10 (f := .glo "is_film") rfl)
  have n_check_film := He.glo_ok X G (c.fact 11 (f := .glo "check_film") rfl)
  have n_is_line := He.glo_ok X G (c.fact 12 (f := .glo "is_line") rfl)
  have n_are_lines_of := He.glo_ok X G (c.fact 13 (f := .glo "are_lines_of") rfl)
  have n_check_lines := He.glo_ok X G (c.fact 14 (f := .glo "check_lines") rfl)
  have n_check_rules := He.glo_ok X G (c.fact 15 (f := .glo "check_rules") rfl)
  have n_ons_of := He.glo_ok X G (c.fact 16 (f := .glo "ons_of") rfl)
  have n_last_off := He.glo_ok X G (c.fact 17 (f := .glo "last_off") rfl)
  have n_shows_from := He.glo_ok X G (c.fact 18 (f := .glo "shows_from") rfl)
  have n_first_from := He.glo_ok X G (c.fact 19 (f := .glo "first_from") rfl)
  have n_told_of := He.glo_ok X G (c.fact 20 (f := .glo "told_of") rfl)
  have n_paper_of := He.glo_ok X G (c.fact 21 (f := .glo "paper_of") rfl)
  have n_can_told := He.glo_ok X G (c.fact 22 (f := .glo "can_told") rfl)
  have n__law_fits := He.glo_ok X G (c.fact 23 (f := .glo "_law_fits") rfl)
  have n__law_shows := He.glo_ok X G (c.fact 24 (f := .glo "_law_shows") rfl)
  have n__law_early := He.glo_ok X G (c.fact 25 (f := .glo "_law_early") rfl)
  have n__law_is_plan := He.glo_ok X G (c.fact 26 (f := .glo "_law_is_plan") rfl)
  have n__law_is_full := He.glo_ok X G (c.fact 27 (f := .glo "_law_is_full") rfl)
  have n__law_is_due := He.glo_ok X G (c.fact 28 (f := .glo "_law_is_due") rfl)
  have n__law_values := He.glo_ok X G (c.fact 29 (f := .glo "_law_values") rfl)
  have n_are_shown := He.glo_ok X G (c.fact 30 (f := .glo "are_shown") rfl)
  have n_is_full := He.glo_ok X G (c.fact 31 (f := .glo "is_full") rfl)
  have n_is_show := He.glo_ok X G (c.fact 32 (f := .glo "is_show") rfl)
  have n_is_plan_of := He.glo_ok X G (c.fact 33 (f := .glo "is_plan_of") rfl)
  have n_is_cut := He.glo_ok X G (c.fact 34 (f := .glo "is_cut") rfl)
  have n_suits := He.glo_ok X G (c.fact 35 (f := .glo "suits") rfl)
  have n_wrong_of := He.glo_ok X G (c.fact 36 (f := .glo "wrong_of") rfl)
  have n_shows_can := He.glo_ok X G (c.fact 37 (f := .glo "shows_can") rfl)
  have n__law_of := He.glo_ok X G (c.fact 38 (f := .glo "_law_of") rfl)
  have n__law_wrong := He.glo_ok X G (c.fact 39 (f := .glo "_law_wrong") rfl)
  have n_check_plan := He.glo_ok X G (c.fact 40 (f := .glo "check_plan") rfl)
  have n_plan_wrong := He.glo_ok X G (c.fact 41 (f := .glo "plan_wrong") rfl)
  have n_is_right := He.glo_ok X G (c.fact 42 (f := .glo "is_right") rfl)
  have n__law_right := He.glo_ok X G (c.fact 43 (f := .glo "_law_right") rfl)
  have n_law := He.glo_ok X G (c.fact 44 (f := .glo "law") rfl)
  have m_abs := He.free_ok X G (c.fact 45 (f := .free "abs") rfl)
  have m_all := He.free_ok X G (c.fact 46 (f := .free "all") rfl)
  have m_any := He.free_ok X G (c.fact 47 (f := .free "any") rfl)
  have m_bool := He.free_ok X G (c.fact 48 (f := .free "bool") rfl)
  have m_enumerate := He.free_ok X G (c.fact 49 (f := .free "enumerate") rfl)
  have m_int := He.free_ok X G (c.fact 50 (f := .free "int") rfl)
  have m_isinstance := He.free_ok X G (c.fact 51 (f := .free "isinstance") rfl)
  have m_len := He.free_ok X G (c.fact 52 (f := .free "len") rfl)
  have m_list := He.free_ok X G (c.fact 53 (f := .free "list") rfl)
  have m_max := He.free_ok X G (c.fact 54 (f := .free "max") rfl)
  have m_min := He.free_ok X G (c.fact 55 (f := .free "min") rfl)
  have m_range := He.free_ok X G (c.fact 56 (f := .free "range") rfl)
  have m_repr := He.free_ok X G (c.fact 57 (f := .free "repr") rfl)
  have m_sorted := He.free_ok X G (c.fact 58 (f := .free "sorted") rfl)
  have m_str := He.free_ok X G (c.fact 59 (f := .free "str") rfl)
  have m_sum := He.free_ok X G (c.fact 60 (f := .free "sum") rfl)
  have m_tuple := He.free_ok X G (c.fact 61 (f := .free "tuple") rfl)
  have m_zip := He.free_ok X G (c.fact 62 (f := .free "zip") rfl)
  have g_MOST_TICK := He.int_ok X G (c.fact 63 (f := .int "MOST_TICK" 400) rfl)
  have g_THREE := He.int_ok X G (c.fact 64 (f := .int "THREE" 3) rfl)
  have g_MOST_LINES := He.int_ok X G (c.fact 65 (f := .int "MOST_LINES" 30) rfl)
  have g_MOST_RULE := He.int_ok X G (c.fact 66 (f := .int "MOST_RULE" 100) rfl)
  have g_FOUR_films := He.int_ok X G (c.fact 67 (f := .int "FOUR_films" 4) rfl)
  have g_PLAN := He.str_ok X G (c.fact 68 (f := .str "PLAN" "plan") rfl)
  have g_FULL := He.str_ok X G (c.fact 69 (f := .str "FULL" "full") rfl)
  have g_UNFIT := He.str_ok X G (c.fact 70 (f := .str "UNFIT" "unfit") rfl)
  have g_NEAR := He.str_ok X G (c.fact 71 (f := .str "NEAR" "near") rfl)
  have g_FOUR_plans := He.int_ok X G (c.fact 72 (f := .int "FOUR_plans" 4) rfl)
  have e := hfa.symm.trans n_law
  cases e
  refine ⟨fd_law, fun s v => (FunD.bindsA (ps := ["script"]) D_law fun _ _ _ _ _ _ us hl => match us, hl with | [_], _ => rfl) s [v] rfl, fun base _ _ => ?_⟩
  have C__law_cells : Cal P w K mg base 1 "_law_cells" 2 F__law_cells := ⟨_, _, ["script", "limit"], n__law_cells, D__law_cells.kp, rfl, D__law_cells.bindsN (fun _ _ _ _ _ _ us hl => match us, hl with | [_, _], _ => rfl), ok__law_cells m_len m_list m_max m_min m_range D__law_cells⟩
  have C__law_pot : CalO P w K mg base 1 "_law_pot" 2 F__law_pot := ⟨_, _, ["script", "place"], n__law_pot, D__law_pot.kp, rfl, D__law_pot.bindsN (fun _ _ _ _ _ _ us hl => match us, hl with | [_, _], _ => rfl), ok__law_pot m_abs m_int m_len m_sum D__law_pot⟩
  have C__law_take : Cal P w K mg base 1 "_law_take" 2 F__law_take := ⟨_, _, ["pot", "upto"], n__law_take, D__law_take.kp, rfl, D__law_take.bindsN (fun _ _ _ _ _ _ us hl => match us, hl with | [_, _], _ => rfl), ok__law_take m_int D__law_take⟩
  have C__law_film : Cal P w K mg base 2 "_law_film" 2 F__law_film := ⟨_, _, ["pot", "length"], n__law_film, D__law_film.kp, rfl, D__law_film.bindsN (fun _ _ _ _ _ _ us hl => match us, hl with | [_, _], _ => rfl), ok__law_film m_int m_range m_tuple C__law_take D__law_film⟩
  have C__law_rules : Cal P w K mg base 2 "_law_rules" 1 F__law_rules := ⟨_, _, ["pot"], n__law_rules, D__law_rules.kp, rfl, D__law_rules.bindsN (fun _ _ _ _ _ _ us hl => match us, hl with | [_], _ => rfl), ok__law_rules m_int C__law_take D__law_rules⟩
  have C__law_lines : Cal P w K mg base 2 "_law_lines" 3 F__law_lines := ⟨_, _, ["pot", "length", "many"], n__law_lines, D__law_lines.kp, rfl, D__law_lines.bindsN (fun _ _ _ _ _ _ us hl => match us, hl with | [_, _, _], _ => rfl), ok__law_lines m_int m_min m_range m_sorted m_tuple C__law_take D__law_lines⟩
  have C_is_integer : Cal P w K mg base 1 "is_integer" 1 F_is_integer := ⟨_, _, ["value"], n_is_integer, D_is_integer.kp, rfl, D_is_integer.bindsN (fun _ _ _ _ _ _ us hl => match us, hl with | [_], _ => rfl), ok_is_integer m_bool m_int m_isinstance D_is_integer⟩
  have C_is_between : Cal P w K mg base 2 "is_between" 3 F_is_between := ⟨_, _, ["value", "low", "high"], n_is_between, D_is_between.kp, rfl, D_is_between.bindsN (fun _ _ _ _ _ _ us hl => match us, hl with | [_, _, _], _ => rfl), ok_is_between C_is_integer D_is_between⟩
  have C_are_between : Cal P w K mg base 3 "are_between" 3 F_are_between := ⟨_, _, ["value", "low", "high"], n_are_between, D_are_between.kp, rfl, D_are_between.bindsN (fun _ _ _ _ _ _ us hl => match us, hl with | [_, _, _], _ => rfl), ok_are_between m_all m_isinstance m_tuple C_is_between D_are_between⟩
  have C_is_ascending : Cal P w K mg base 1 "is_ascending" 1 F_is_ascending := ⟨_, _, ["items"], n_is_ascending, D_is_ascending.kp, rfl, D_is_ascending.bindsN (fun _ _ _ _ _ _ us hl => match us, hl with | [_], _ => rfl), ok_is_ascending m_all m_zip D_is_ascending⟩
  have C_is_film : Cal P w K mg base 4 "is_film" 1 F_is_film := ⟨_, _, ["value"], n_is_film, D_is_film.kp, rfl, D_is_film.bindsN (fun _ _ _ _ _ _ us hl => match us, hl with | [_], _ => rfl), ok_is_film m_isinstance m_len m_tuple g_MOST_TICK C_is_between C_are_between C_is_ascending D_is_film⟩
  have C_check_film : Cal P w K mg base 5 "check_film" 1 F_check_film := ⟨_, _, ["value"], n_check_film, D_check_film.kp, rfl, D_check_film.bindsN (fun _ _ _ _ _ _ us hl => match us, hl with | [_], _ => rfl), ok_check_film C_is_film D_check_film⟩
  have C_is_line : Cal P w K mg base 4 "is_line" 2 F_is_line := ⟨_, _, ["length", "value"], n_is_line, D_is_line.kp, rfl, D_is_line.bindsN (fun _ _ _ _ _ _ us hl => match us, hl with | [_, _], _ => rfl), ok_is_line m_len g_MOST_TICK g_THREE C_are_between D_is_line⟩
  have C_are_lines_of : Cal P w K mg base 5 "are_lines_of" 2 F_are_lines_of := ⟨_, _, ["length", "value"], n_are_lines_of, D_are_lines_of.kp, rfl, D_are_lines_of.bindsN (fun _ _ _ _ _ _ us hl => match us, hl with | [_, _], _ => rfl), ok_are_lines_of m_all m_isinstance m_len m_tuple m_zip g_MOST_LINES C_is_line D_are_lines_of⟩
  have C_check_lines : Cal P w K mg base 6 "check_lines" 2 F_check_lines := ⟨_, _, ["film", "lines"], n_check_lines, D_check_lines.kp, rfl, D_check_lines.bindsN (fun _ _ _ _ _ _ us hl => match us, hl with | [_, _], _ => rfl), ok_check_lines C_check_film C_are_lines_of D_check_lines⟩
  have C_check_rules : Cal P w K mg base 7 "check_rules" 3 F_check_rules := ⟨_, _, ["film", "lines", "rules"], n_check_rules, D_check_rules.kp, rfl, D_check_rules.bindsN (fun _ _ _ _ _ _ us hl => match us, hl with | [_, _, _], _ => rfl), ok_check_rules m_len g_MOST_RULE g_FOUR_films C_check_lines C_are_between D_check_rules⟩
  have C_ons_of : Cal P w K mg base 1 "ons_of" 2 F_ons_of := ⟨_, _, ["line", "rules"], n_ons_of, D_ons_of.kp, rfl, D_ons_of.bindsN (fun _ _ _ _ _ _ us hl => match us, hl with | [_, _], _ => rfl), ok_ons_of m_max D_ons_of⟩
  have C_last_off : Cal P w K mg base 1 "last_off" 3 F_last_off := ⟨_, _, ["film", "line", "rules"], n_last_off, D_last_off.kp, rfl, D_last_off.bindsN (fun _ _ _ _ _ _ us hl => match us, hl with | [_, _, _], _ => rfl), ok_last_off m_min D_last_off⟩
  have C_shows_from : Cal P w K mg base 2 "shows_from" 4 F_shows_from := ⟨_, _, ["film", "line", "rules", "tick"], n_shows_from, D_shows_from.kp, rfl, D_shows_from.bindsN (fun _ _ _ _ _ _ us hl => match us, hl with | [_, _, _, _], _ => rfl), ok_shows_from m_len m_max m_min m_range C_ons_of C_last_off D_shows_from⟩
  have C_first_from : Cal P w K mg base 3 "first_from" 4 F_first_from := ⟨_, _, ["film", "line", "rules", "tick"], n_first_from, D_first_from.kp, rfl, D_first_from.bindsN (fun _ _ _ _ _ _ us hl => match us, hl with | [_, _, _, _], _ => rfl), ok_first_from C_shows_from D_first_from⟩
  have C_told_of : Cal P w K mg base 4 "told_of" 3 F_told_of := ⟨_, _, ["film", "lines", "rules"], n_told_of, D_told_of.kp, rfl, D_told_of.bindsN (fun _ _ _ _ _ _ us hl => match us, hl with | [_, _, _], _ => rfl), ok_told_of m_enumerate C_first_from D_told_of⟩
  have C_paper_of : Cal P w K mg base 5 "paper_of" 3 F_paper_of := ⟨_, _, ["film", "lines", "rules"], n_paper_of, D_paper_of.kp, rfl, D_paper_of.bindsN (fun _ _ _ _ _ _ us hl => match us, hl with | [_, _, _], _ => rfl), ok_paper_of m_tuple g_PLAN g_FULL C_told_of D_paper_of⟩
  have C_can_told : Cal P w K mg base 8 "can_told" 3 F_can_told := ⟨_, _, ["film", "lines", "rules"], n_can_told, D_can_told.kp, rfl, D_can_told.bindsN (fun _ _ _ _ _ _ us hl => match us, hl with | [_, _, _], _ => rfl), ok_can_told C_check_rules C_paper_of D_can_told⟩
  have CK_can_told__rules_lines_film : CalK P w K mg base 8 "can_told" ["rules", "lines", "film"] [2, 1, 0] F_can_told := ⟨_, _, ["film", "lines", "rules"], n_can_told, D_can_told.kp, fun s ws hl => FunD.bindsKw D_can_told (fun _ _ _ _ _ _ ws hl => match ws, hl with | [_, _, _], _ => rfl) s ws hl, ok_can_told C_check_rules C_paper_of D_can_told⟩
  have C__law_fits : Cal P w K mg base 1 "_law_fits" 4 F__law_fits := ⟨_, _, ["film", "line", "rules", "show"], n__law_fits, D__law_fits.kp, rfl, D__law_fits.bindsN (fun _ _ _ _ _ _ us hl => match us, hl with | [_, _, _, _], _ => rfl), ok__law_fits m_any D__law_fits⟩
  have C__law_shows : Cal P w K mg base 2 "_law_shows" 3 F__law_shows := ⟨_, _, ["film", "line", "rules"], n__law_shows, D__law_shows.kp, rfl, D__law_shows.bindsN (fun _ _ _ _ _ _ us hl => match us, hl with | [_, _, _], _ => rfl), ok__law_shows m_int m_range C__law_fits D__law_shows⟩
  have C__law_early : Cal P w K mg base 3 "_law_early" 3 F__law_early := ⟨_, _, ["film", "lines", "rules"], n__law_early, D__law_early.kp, rfl, D__law_early.bindsN (fun _ _ _ _ _ _ us hl => match us, hl with | [_, _, _], _ => rfl), ok__law_early C__law_shows D__law_early⟩
  have C__law_is_plan : Cal P w K mg base 2 "_law_is_plan" 4 F__law_is_plan := ⟨_, _, ["film", "lines", "rules", "value"], n__law_is_plan, D__law_is_plan.kp, rfl, D__law_is_plan.bindsN (fun _ _ _ _ _ _ us hl => match us, hl with | [_, _, _, _], _ => rfl), ok__law_is_plan m_all m_bool m_int m_isinstance m_len m_tuple m_zip C__law_fits D__law_is_plan⟩
  have C__law_is_full : Cal P w K mg base 3 "_law_is_full" 6 F__law_is_full := ⟨_, _, ["film", "lines", "rules", "first", "last", "bounds"], n__law_is_full, D__law_is_full.kp, rfl, D__law_is_full.bindsN (fun _ _ _ _ _ _ us hl => match us, hl with | [_, _, _, _, _, _], _ => rfl), ok__law_is_full m_all m_bool m_int m_isinstance m_len m_min m_tuple m_zip C__law_shows D__law_is_full⟩
  have C__law_is_due : Cal P w K mg base 4 "_law_is_due" 4 F__law_is_due := ⟨_, _, ["film", "lines", "rules", "value"], n__law_is_due, D__law_is_due.kp, rfl, D__law_is_due.bindsN (fun _ _ _ _ _ _ us hl => match us, hl with | [_, _, _, _], _ => rfl), ok__law_is_due m_isinstance m_len m_str m_tuple C__law_is_plan C__law_is_full D__law_is_due⟩
  have C__law_values : Cal P w K mg base 2 "_law_values" 3 F__law_values := ⟨_, _, ["pot", "told", "lines"], n__law_values, D__law_values.kp, rfl, D__law_values.bindsN (fun _ _ _ _ _ _ us hl => match us, hl with | [_, _, _], _ => rfl), ok__law_values m_int m_len m_list m_max m_range m_tuple C__law_take D__law_values⟩
  have C_are_shown : Cal P w K mg base 4 "are_shown" 5 F_are_shown := ⟨_, _, ["film", "lines", "rules", "first", "bounds"], n_are_shown, D_are_shown.kp, rfl, D_are_shown.bindsN (fun _ _ _ _ _ _ us hl => match us, hl with | [_, _, _, _, _], _ => rfl), ok_are_shown m_zip C_first_from D_are_shown⟩
  have C_is_full : Cal P w K mg base 5 "is_full" 4 F_is_full := ⟨_, _, ["film", "lines", "rules", "value"], n_is_full, D_is_full.kp, rfl, D_is_full.bindsN (fun _ _ _ _ _ _ us hl => match us, hl with | [_, _, _, _], _ => rfl), ok_is_full m_len g_MOST_TICK C_is_between C_are_between C_are_shown C_first_from D_is_full⟩
  have C_is_show : Cal P w K mg base 4 "is_show" 1 F_is_show := ⟨_, _, ["value"], n_is_show, D_is_show.kp, rfl, D_is_show.bindsN (fun _ _ _ _ _ _ us hl => match us, hl with | [_], _ => rfl), ok_is_show m_len g_MOST_TICK C_are_between D_is_show⟩
  have C_is_plan_of : Cal P w K mg base 5 "is_plan_of" 2 F_is_plan_of := ⟨_, _, ["lines", "value"], n_is_plan_of, D_is_plan_of.kp, rfl, D_is_plan_of.bindsN (fun _ _ _ _ _ _ us hl => match us, hl with | [_, _], _ => rfl), ok_is_plan_of m_all m_isinstance m_len m_tuple C_is_show D_is_plan_of⟩
  have C_is_cut : Cal P w K mg base 1 "is_cut" 3 F_is_cut := ⟨_, _, ["film", "on", "off"], n_is_cut, D_is_cut.kp, rfl, D_is_cut.bindsN (fun _ _ _ _ _ _ us hl => match us, hl with | [_, _, _], _ => rfl), ok_is_cut m_any D_is_cut⟩
  have C_suits : Cal P w K mg base 2 "suits" 4 F_suits := ⟨_, _, ["film", "line", "rules", "show"], n_suits, D_suits.kp, rfl, D_suits.bindsN (fun _ _ _ _ _ _ us hl => match us, hl with | [_, _, _, _], _ => rfl), ok_suits C_ons_of C_last_off C_is_cut D_suits⟩
  have C_wrong_of : Cal P w K mg base 3 "wrong_of" 4 F_wrong_of := ⟨_, _, ["film", "lines", "rules", "plan"], n_wrong_of, D_wrong_of.kp, rfl, D_wrong_of.bindsN (fun _ _ _ _ _ _ us hl => match us, hl with | [_, _, _, _], _ => rfl), ok_wrong_of m_enumerate g_UNFIT g_NEAR C_suits D_wrong_of⟩
  have C_shows_can : Cal P w K mg base 8 "shows_can" 4 F_shows_can := ⟨_, _, ["film", "lines", "rules", "value"], n_shows_can, D_shows_can.kp, rfl, D_shows_can.bindsN (fun _ _ _ _ _ _ us hl => match us, hl with | [_, _, _, _], _ => rfl), ok_shows_can m_isinstance m_len m_str m_tuple g_FOUR_plans g_FULL g_PLAN C_check_rules C_is_full C_is_plan_of C_wrong_of D_shows_can⟩
  have CK_shows_can__value_rules_lines_film : CalK P w K mg base 8 "shows_can" ["value", "rules", "lines", "film"] [3, 2, 1, 0] F_shows_can := ⟨_, _, ["film", "lines", "rules", "value"], n_shows_can, D_shows_can.kp, fun s ws hl => FunD.bindsKw D_shows_can (fun _ _ _ _ _ _ ws hl => match ws, hl with | [_, _, _, _], _ => rfl) s ws hl, ok_shows_can m_isinstance m_len m_str m_tuple g_FOUR_plans g_FULL g_PLAN C_check_rules C_is_full C_is_plan_of C_wrong_of D_shows_can⟩
  have C__law_of : Cal P w K mg base 2 "_law_of" 2 F__law_of := ⟨_, _, ["pot", "some"], n__law_of, D__law_of.kp, rfl, D__law_of.bindsN (fun _ _ _ _ _ _ us hl => match us, hl with | [_, _], _ => rfl), ok__law_of m_len C__law_take D__law_of⟩
  have C__law_wrong : Cal P w K mg base 2 "_law_wrong" 4 F__law_wrong := ⟨_, _, ["film", "lines", "rules", "plan"], n__law_wrong, D__law_wrong.kp, rfl, D__law_wrong.bindsN (fun _ _ _ _ _ _ us hl => match us, hl with | [_, _, _, _], _ => rfl), ok__law_wrong m_enumerate m_int C__law_fits D__law_wrong⟩
  have C_check_plan : Cal P w K mg base 8 "check_plan" 4 F_check_plan := ⟨_, _, ["film", "lines", "rules", "plan"], n_check_plan, D_check_plan.kp, rfl, D_check_plan.bindsN (fun _ _ _ _ _ _ us hl => match us, hl with | [_, _, _, _], _ => rfl), ok_check_plan C_check_rules C_is_plan_of D_check_plan⟩
  have C_plan_wrong : Cal P w K mg base 9 "plan_wrong" 4 F_plan_wrong := ⟨_, _, ["film", "lines", "rules", "plan"], n_plan_wrong, D_plan_wrong.kp, rfl, D_plan_wrong.bindsN (fun _ _ _ _ _ _ us hl => match us, hl with | [_, _, _, _], _ => rfl), ok_plan_wrong C_check_plan C_wrong_of D_plan_wrong⟩
  have CK_plan_wrong__plan_rules_lines_film : CalK P w K mg base 9 "plan_wrong" ["plan", "rules", "lines", "film"] [3, 2, 1, 0] F_plan_wrong := ⟨_, _, ["film", "lines", "rules", "plan"], n_plan_wrong, D_plan_wrong.kp, fun s ws hl => FunD.bindsKw D_plan_wrong (fun _ _ _ _ _ _ ws hl => match ws, hl with | [_, _, _, _], _ => rfl) s ws hl, ok_plan_wrong C_check_plan C_wrong_of D_plan_wrong⟩
  have C_is_right : Cal P w K mg base 9 "is_right" 4 F_is_right := ⟨_, _, ["film", "lines", "rules", "plan"], n_is_right, D_is_right.kp, rfl, D_is_right.bindsN (fun _ _ _ _ _ _ us hl => match us, hl with | [_, _, _, _], _ => rfl), ok_is_right C_check_plan C_wrong_of D_is_right⟩
  have CK_is_right__plan_rules_lines_film : CalK P w K mg base 9 "is_right" ["plan", "rules", "lines", "film"] [3, 2, 1, 0] F_is_right := ⟨_, _, ["film", "lines", "rules", "plan"], n_is_right, D_is_right.kp, fun s ws hl => FunD.bindsKw D_is_right (fun _ _ _ _ _ _ ws hl => match ws, hl with | [_, _, _, _], _ => rfl) s ws hl, ok_is_right C_check_plan C_wrong_of D_is_right⟩
  have C__law_right : Cal P w K mg base 10 "_law_right" 1 F__law_right := ⟨_, _, ["pot"], n__law_right, D__law_right.kp, rfl, D__law_right.bindsN (fun _ _ _ _ _ _ us hl => match us, hl with | [_], _ => rfl), ok__law_right m_int m_len m_list m_range m_repr m_tuple C__law_film C__law_rules C__law_lines C_can_told C__law_early C__law_is_due C__law_values C_shows_can C__law_take C__law_of C__law_wrong C_plan_wrong C_is_right CK_can_told__rules_lines_film CK_shows_can__value_rules_lines_film CK_plan_wrong__plan_rules_lines_film CK_is_right__plan_rules_lines_film D__law_right⟩
  exact ok_law m_all m_range C__law_cells C__law_pot C__law_right D_law
end My
open PySem PySem.W PySem.Calls PyProof.Rows
theorem PySem.Challenge.cw_readintime_k06_whole_plans_or_full_stret_holds : PySem.Challenge.rw_readintime_k06_whole_plans_or_full_stret.Holds := by
  w_on; o_law
  refine HandSHeadRun.head_any (r := OpenLaw.row PySem.Challenge.rw_readintime_k06_whole_plans_or_full_stret) (q := view (OpenLaw.row PySem.Challenge.rw_readintime_k06_whole_plans_or_full_stret).prog [65]) (H := My.hk) (ob := My.ob) (M := 3000) (loose := My.loose) (d := HandSHeadRun.topDef (OpenLaw.row PySem.Challenge.rw_readintime_k06_whole_plans_or_full_stret).prog 65) (kwd := []) My.ob_eq
    (by kernel_rfl) (fun s => by kernel_rfl) My.run (by kernel_rfl) (by kernel_rfl) (by kernel_rfl) (by rfl) (by first | assumption | decide +kernel) (by decide +kernel) ⟨rfl, rfl, rfl, rfl, rfl, by decide +kernel⟩ ?hw ?hc
  case hw => w_witness2
  case hc =>
    refine RT.walk_ofG (l := PySem.Challenge.rw_readintime_k06_whole_plans_or_full_stret) (n := 63) (k := 11) (x := "script") (F := My.F_law) rfl (by decide) (by kernel_rfl) ⟨rfl, by decide, by decide⟩ ?F (fun ns _ => My.e_law ns)
    intro w mg fa h Y G hmg0
    obtain ⟨K, KX, c⟩ := Y
    have hmg : mg ("law" : PySem.Str) = some (.ref fa) := by
      have e : (HandSHeadRun.topDef (OpenLaw.row PySem.Challenge.rw_readintime_k06_whole_plans_or_full_stret).prog 65).name = ("law" : PySem.Str) := by kernel_rfl
      rw [← e]
      exact hmg0
    obtain ⟨fd, hb, hF⟩ := My.facts (P := (PySem.Challenge.rw_readintime_k06_whole_plans_or_full_stret).prog) (w := w) KX G hmg c
    exact ⟨K, fd, KX, hb, hF⟩
