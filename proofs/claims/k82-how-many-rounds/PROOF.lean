import PyProof.Rows.All
import Wide.All
import OpenK.AllK
import Wide.FinOn
import HandS.ForMost
import HandS.ForExc
import HandS.Conv
import HandS.Deep
import HandS.TupAny
import HandS.TupMul
import HandS.Wide
import HandS.IsInst
import HandS.TupLe
import HandS.Walk
import HandS.Zip
import HandS.Rev
import KE.GoesEnum
import PyProof.EnumMake
import HandS.Call
import HandS.Ends
import HandS.More
import HandS.Words
import HandS.WordsExc
import HandS.Defaults
import HandS.CallSlots
import HandS.ExcOwn
import KE.KItemsList
import KE.GoesMore
import KE.GoesZip
import HandS.ListItems
import HandS.Head0
import HandS.Head1
import HandS.Head2
import HandS.HeadEnd
import HandS.HeadHook1
import HandS.HeadHook2
import KE.KStateDown
import PySem.Challenge.RW_nolieholds_k82_how_many_rounds
set_option Elab.async false
set_option linter.all false
set_option autoImplicit false
set_option maxRecDepth 100000
set_option maxHeartbeats 4000000
/-! VL0: values without addresses, slots that own what may change; how the layer's heap bears them. -/
namespace VL
open PySem L2

/-- a value, its whole content within -/
inductive PV where
  | non | bl (b : Bool) | int (i : Int) | str (x : Str)
  | tup (xs : List PV) | lst (xs : List PV)
  | dk (kvs : List (Key × PV)) | dt (kvs : List (List Key × PV)) | scr (ns : List Int)
instance : Inhabited PV := ⟨.non⟩
/-- a slot: nothing known; a value that nobody changes; an object that this frame alone holds; the caller's, lent; one that is lent for a while -/
inductive Sl where
  | no | val (x : PV) | own (x : PV) | io (x : PV) | hid
instance : Inhabited Sl := ⟨.no⟩
abbrev Sk := List Sl
def ownd : Sl → Bool
  | .own _ => true
  | .io _ => true
  | _ => false

/-- slots that keep their address -/
def pinned : Sl → Bool
  | .io _ => true
  | .hid => true
  | _ => false

/-- a list that is written nowhere any more -/
def FzL (K : PySem.W.Frag) (H : Hp) (a : Addr) (vs : List V) : Prop := (∃ o, H a = some (.frz o (.lst vs))) ∨
    ∃ (o : Obj) (its : Array Value) (n : Nat), K.lookup a = some o ∧ o.cls = .type "list" ∧ o.dict = none ∧ o.data = .seq its n ∧ its.size ≤ sizeLine ∧ Vals vs its.toList
theorem FzL.sq {K : PySem.W.Frag} {H : Hp} {a : Addr} {vs : List V} (h : FzL K H a vs) : SqL K H a vs := by
  rcases h with ⟨o, h⟩ | h
  · exact .inl (.inr ⟨o, h⟩)
  · exact .inr h

mutual
inductive Rep (K : PySem.W.Frag) (H : Hp) : V → PV → Prop
  | non : Rep K H .non .non
  | bl (b : Bool) : Rep K H (.bl b) (.bl b)
  | int (i : Int) : Rep K H (.int i) (.int i)
  | str (x : Str) : Rep K H (.str x) (.str x)
  | tup {a : Addr} {vs : List V} {xs : List PV} : H a = some (.tup vs) → RepA K H vs xs → Rep K H (.ref a) (.tup xs)
  | lst {a : Addr} {o : Obj} {vs : List V} {xs : List PV} : H a = some (.frz o (.lst vs)) → RepA K H vs xs → Rep K H (.ref a) (.lst xs)
  | scr {a : Addr} {ns : List Int} : FzL K H a (ns.map V.int) → Rep K H (.ref a) (.scr ns)
  | dk {a : Addr} {o : Obj} {ws : List (Key × V)} {kvs : List (Key × PV)} : H a = some (.frz o (.dK ws)) → RepK K H ws kvs → Rep K H (.ref a) (.dk kvs)
  | dt {a : Addr} {o : Obj} {ws : List (List Key × V)} {kvs : List (List Key × PV)} : H a = some (.frz o (.dT ws)) → RepT K H ws kvs → Rep K H (.ref a) (.dt kvs)
inductive RepA (K : PySem.W.Frag) (H : Hp) : List V → List PV → Prop
  | nil : RepA K H [] []
  | cons {v : V} {vs : List V} {x : PV} {xs : List PV} : Rep K H v x → RepA K H vs xs → RepA K H (v :: vs) (x :: xs)
inductive RepK (K : PySem.W.Frag) (H : Hp) : List (Key × V) → List (Key × PV) → Prop
  | nil : RepK K H [] []
  | cons {k : Key} {v : V} {ws : List (Key × V)} {x : PV} {kvs : List (Key × PV)} : Rep K H v x → RepK K H ws kvs → RepK K H ((k, v) :: ws) ((k, x) :: kvs)
inductive RepT (K : PySem.W.Frag) (H : Hp) : List (List Key × V) → List (List Key × PV) → Prop
  | nil : RepT K H [] []
  | cons {k : List Key} {v : V} {ws : List (List Key × V)} {x : PV} {kvs : List (List Key × PV)} : Rep K H v x → RepT K H ws kvs → RepT K H ((k, v) :: ws) ((k, x) :: kvs)
end

/-- what is never changed stands -/
structure Ext (H H' : Hp) : Prop where
  tup : ∀ a xs, H a = some (.tup xs) → H' a = some (.tup xs)
  frz : ∀ a o u, H a = some (.frz o u) → H' a = some (.frz o u)
theorem Ext.refl (H : Hp) : Ext H H := ⟨fun _ _ h => h, fun _ _ _ h => h⟩
theorem Ext.trans {H H1 H2 : Hp} (a : Ext H H1) (b : Ext H1 H2) : Ext H H2 := ⟨fun c xs h => b.tup c xs (a.tup c xs h), fun c o u h => b.frz c o u (a.frz c o u h)⟩
theorem Ext.of_same {H H' : Hp} (s : Same H H') : Ext H H' := ⟨fun a xs h => s a _ h, fun a o u h => s a _ h⟩

section
variable {K : PySem.W.Frag} {H H' : Hp}
theorem Ext.sqT (e : Ext H H') {a : Addr} {vs : List V} (h : SqT K H a vs) : SqT K H' a vs := by
  rcases h with (h | ⟨o, h⟩) | h
  · exact .inl (.inl (e.tup _ _ h))
  · exact .inl (.inr ⟨o, e.frz _ _ _ h⟩)
  · exact .inr h
theorem Ext.fzL (e : Ext H H') {a : Addr} {vs : List V} (h : FzL K H a vs) : FzL K H' a vs := by
  rcases h with ⟨o, h⟩ | h
  · exact .inl ⟨o, e.frz _ _ _ h⟩
  · exact .inr h
mutual
theorem Rep.ext (e : Ext H H') : ∀ {v : V} {x : PV}, Rep K H v x → Rep K H' v x
  | _, _, .non => .non
  | _, _, .bl b => .bl b
  | _, _, .int i => .int i
  | _, _, .str x => .str x
  | _, _, .tup h r => .tup (e.tup _ _ h) (RepA.ext e r)
  | _, _, .lst h r => .lst (e.frz _ _ _ h) (RepA.ext e r)
  | _, _, .scr h => .scr (e.fzL h)
  | _, _, .dk h r => .dk (e.frz _ _ _ h) (RepK.ext e r)
  | _, _, .dt h r => .dt (e.frz _ _ _ h) (RepT.ext e r)
theorem RepA.ext (e : Ext H H') : ∀ {vs : List V} {xs : List PV}, RepA K H vs xs → RepA K H' vs xs
  | _, _, .nil => .nil
  | _, _, .cons r rs => .cons (Rep.ext e r) (RepA.ext e rs)
theorem RepK.ext (e : Ext H H') : ∀ {vs : List (Key × V)} {xs : List (Key × PV)}, RepK K H vs xs → RepK K H' vs xs
  | _, _, .nil => .nil
  | _, _, .cons r rs => .cons (Rep.ext e r) (RepK.ext e rs)
theorem RepT.ext (e : Ext H H') : ∀ {vs : List (List Key × V)} {xs : List (List Key × PV)}, RepT K H vs xs → RepT K H' vs xs
  | _, _, .nil => .nil
  | _, _, .cons r rs => .cons (Rep.ext e r) (RepT.ext e rs)
end

theorem RepA.length : ∀ {vs : List V} {xs : List PV}, RepA K H vs xs → vs.length = xs.length
  | _, _, .nil => rfl
  | _, _, .cons _ rs => by rw [List.length_cons, List.length_cons, RepA.length rs]
theorem RepA.get : ∀ {vs : List V} {xs : List PV} {i : Nat} {v : V}, RepA K H vs xs → vs[i]? = some v → ∃ x, xs[i]? = some x ∧ Rep K H v x
  | _, _, i, _, .nil, h => by simp at h
  | _, _, 0, _, .cons r _, h => by simp at h; subst h; exact ⟨_, rfl, r⟩
  | _, _, i + 1, _, .cons _ rs, h => by simpa using RepA.get rs (by simpa using h)
theorem RepA.get' : ∀ {vs : List V} {xs : List PV} {i : Nat} {x : PV}, RepA K H vs xs → xs[i]? = some x → ∃ v, vs[i]? = some v ∧ Rep K H v x
  | _, _, i, _, .nil, h => by simp at h
  | _, _, 0, _, .cons r _, h => by simp at h; subst h; exact ⟨_, rfl, r⟩
  | _, _, i + 1, _, .cons _ rs, h => by simpa using RepA.get' rs (by simpa using h)
theorem RepA.append : ∀ {vs ws : List V} {xs ys : List PV}, RepA K H vs xs → RepA K H ws ys → RepA K H (vs ++ ws) (xs ++ ys)
  | _, _, _, _, .nil, s => s
  | _, _, _, _, .cons r rs, s => .cons r (RepA.append rs s)
theorem RepA.take : ∀ {vs : List V} {xs : List PV} (n : Nat), RepA K H vs xs → RepA K H (vs.take n) (xs.take n)
  | _, _, 0, _ => .nil
  | _, _, _ + 1, .nil => .nil
  | _, _, n + 1, .cons r rs => .cons r (RepA.take n rs)
theorem RepA.drop : ∀ {vs : List V} {xs : List PV} (n : Nat), RepA K H vs xs → RepA K H (vs.drop n) (xs.drop n)
  | _, _, 0, r => r
  | _, _, _ + 1, .nil => .nil
  | _, _, n + 1, .cons _ rs => RepA.drop n rs
theorem RepA.set {v : V} {x : PV} (r : Rep K H v x) : ∀ {vs : List V} {xs : List PV} (i : Nat), RepA K H vs xs → RepA K H (vs.set i v) (xs.set i x)
  | _, _, _, .nil => .nil
  | _, _, 0, .cons _ rs => .cons r rs
  | _, _, i + 1, .cons q rs => .cons q (RepA.set r i rs)
theorem RepA.reverse {vs : List V} {xs : List PV} (r : RepA K H vs xs) : RepA K H vs.reverse xs.reverse := by
  have go : ∀ {vs ws : List V} {xs ys : List PV}, RepA K H vs xs → RepA K H ws ys → RepA K H (vs.reverse ++ ws) (xs.reverse ++ ys) := by
    intro vs
    induction vs with
    | nil => intro ws xs ys h s; cases h; exact s
    | cons v vs ih =>
      intro ws xs ys h s
      cases h with
      | cons a b => simpa using ih b (RepA.cons a s)
  simpa using go r (RepA.nil (K := K) (H := H))
theorem RepA.eraseIdx : ∀ {vs : List V} {xs : List PV} (i : Nat), RepA K H vs xs → RepA K H (vs.eraseIdx i) (xs.eraseIdx i)
  | _, _, _, .nil => .nil
  | _, _, 0, .cons _ rs => rs
  | _, _, i + 1, .cons q rs => .cons q (RepA.eraseIdx i rs)
theorem RepA.dropLast {vs : List V} {xs : List PV} (r : RepA K H vs xs) : RepA K H vs.dropLast xs.dropLast := by
  rw [List.dropLast_eq_take, List.dropLast_eq_take, r.length]
  exact r.take _
theorem RepA.replicate {vs : List V} {xs : List PV} (r : RepA K H vs xs) : ∀ n : Nat, RepA K H (List.replicate n vs).flatten (List.replicate n xs).flatten
  | 0 => .nil
  | n + 1 => by
    rw [List.replicate_succ, List.replicate_succ, List.flatten_cons, List.flatten_cons]
    exact r.append (RepA.replicate r n)
theorem RepA.ints : ∀ {ns : List Int} {vs : List V}, RepA K H vs (ns.map PV.int) → vs = ns.map V.int
  | [], _, h => by cases h; rfl
  | n :: ns, _, h => by
    cases h with
    | cons a b => cases a; rw [RepA.ints b, List.map_cons]
theorem RepA.of_ints : ∀ (ns : List Int), RepA K H (ns.map V.int) (ns.map PV.int)
  | [] => .nil
  | n :: ns => .cons (.int n) (RepA.of_ints ns)
theorem RepA.bls : ∀ {ns : List Bool} {vs : List V}, RepA K H vs (ns.map PV.bl) → vs = ns.map V.bl
  | [], _, h => by cases h; rfl
  | n :: ns, _, h => by
    cases h with
    | cons a b => cases a; rw [RepA.bls b, List.map_cons]
theorem RepA.append_inv : ∀ {xs ys : List PV} {vs : List V}, RepA K H vs (xs ++ ys) → ∃ ws zs, vs = ws ++ zs ∧ RepA K H ws xs ∧ RepA K H zs ys
  | [], _, vs, h => ⟨[], vs, rfl, .nil, h⟩
  | x :: xs, ys, _, h => by
    cases h with
    | cons a b =>
      obtain ⟨ws, zs, e, h1, h2⟩ := RepA.append_inv b
      subst e
      exact ⟨_ :: ws, zs, rfl, .cons a h1, h2⟩
end

/-- an object and its content -/
def RepOb (K : PySem.W.Frag) (H : Hp) (u : HO) (x : PV) : Prop := match u, x with
  | .lst vs, .lst xs => RepA K H vs xs
  | .dK ws, .dk kvs => RepK K H ws kvs
  | .dT ws, .dt kvs => RepT K H ws kvs
  | _, _ => False
theorem RepOb.ext {K : PySem.W.Frag} {H H' : Hp} (e : Ext H H') {u : HO} {x : PV} (h : RepOb K H u x) : RepOb K H' u x := by
  cases u <;> cases x <;> first | exact (show False from h).elim | exact RepA.ext e h | exact RepK.ext e h | exact RepT.ext e h
theorem RepOb.mut {K : PySem.W.Frag} {H : Hp} {u : HO} {x : PV} (h : RepOb K H u x) : Mut (some u) := by
  cases u <;> cases x <;> first | exact (show False from h).elim | exact True.intro
theorem RepOb.notTup {K : PySem.W.Frag} {H : Hp} {u : HO} {x : PV} (h : RepOb K H u x) (vs : List V) : u ≠ .tup vs := by
  intro e; subst e; cases x <;> exact (show False from h).elim
theorem RepOb.notFrz {K : PySem.W.Frag} {H : Hp} {u : HO} {x : PV} (h : RepOb K H u x) (o : Obj) (w : HO) : u ≠ .frz o w := by
  intro e; subst e; cases x <;> exact (show False from h).elim
theorem RepOb.frz {K : PySem.W.Frag} {H : Hp} {a : Addr} {o : Obj} {u : HO} {x : PV} (h : RepOb K H u x) (e : H a = some (.frz o u)) : Rep K H (.ref a) x := by
  cases u <;> cases x <;> first | exact (show False from h).elim | exact .lst e h | exact .dk e h | exact .dt e h

def SlRel (K : PySem.W.Frag) (H : Hp) (s : Sl) (o : Option (Option V)) : Prop := match s with
  | .no => True
  | .hid => True
  | .val x => ∃ v, o = some (some v) ∧ Rep K H v x
  | .own x => ∃ a u, o = some (some (V.ref a)) ∧ H a = some u ∧ RepOb K H u x
  | .io x => ∃ a u, o = some (some (V.ref a)) ∧ H a = some u ∧ RepOb K H u x
/-- the slots, as the frame bears them -/
structure RelS (K : PySem.W.Frag) (S : Sk) (σ : St) (H : Hp) : Prop where
  len : σ.length = S.length
  sl : ∀ (i : Nat) (s : Sl), S[i]? = some s → SlRel K H s σ[i]?
  dj : ∀ (i j : Nat) (s t : Sl) (a : Addr), S[i]? = some s → S[j]? = some t → ownd s = true → ownd t = true → σ[i]? = some (some (V.ref a)) → σ[j]? = some (some (V.ref a)) → i = j
/-- an address that this frame may write -/
def Owns (S : Sk) (σ : St) (a : Addr) : Prop := ∃ (i : Nat) (s : Sl), S[i]? = some s ∧ ownd s = true ∧ σ[i]? = some (some (V.ref a))
/-- from here to there: what was tracked and is not ours stands; what is lent is lent still -/
structure Frm (S : Sk) (σ : St) (H : Hp) (S' : Sk) (σ' : St) (H' : Hp) : Prop where
  keep : ∀ a o, H a = some o → ¬ Owns S σ a → H' a = some o ∧ ¬ Owns S' σ' a
  io : ∀ (i : Nat) (s : Sl), S'[i]? = some s → pinned s = true → (∃ t, S[i]? = some t ∧ pinned t = true) ∧ σ'[i]? = σ[i]?
theorem Frm.refl {S : Sk} {σ : St} {H : Hp} : Frm S σ H S σ H := ⟨fun _ _ h n => ⟨h, n⟩, fun _ s h p => ⟨⟨s, h, p⟩, rfl⟩⟩
theorem Frm.trans {S S1 S2 : Sk} {σ σ1 σ2 : St} {H H1 H2 : Hp} (a : Frm S σ H S1 σ1 H1) (b : Frm S1 σ1 H1 S2 σ2 H2) : Frm S σ H S2 σ2 H2 :=
  ⟨fun c o h n => let ⟨h1, n1⟩ := a.keep c o h n; b.keep c o h1 n1, fun i s h p => by
    obtain ⟨⟨y, h1, p1⟩, e1⟩ := b.io i s h p
    obtain ⟨h2, e2⟩ := a.io i y h1 p1
    exact ⟨h2, e1.trans e2⟩⟩
section
variable {K : PySem.W.Frag} {S S' : Sk} {σ σ' : St} {H H' : Hp}
theorem RelS.owned (R : RelS K S σ H) {a : Addr} (h : Owns S σ a) : ∃ u x, H a = some u ∧ RepOb K H u x := by
  obtain ⟨i, s, h1, h2, h3⟩ := h
  have q := R.sl i s h1
  cases s with
  | no => cases h2
  | hid => cases h2
  | val x => cases h2
  | own x =>
    obtain ⟨b, u, e, hb, r⟩ := (show ∃ a u, σ[i]? = some (some (V.ref a)) ∧ H a = some u ∧ RepOb K H u x from q)
    rw [h3] at e; cases e
    exact ⟨u, x, hb, r⟩
  | io x =>
    obtain ⟨b, u, e, hb, r⟩ := (show ∃ a u, σ[i]? = some (some (V.ref a)) ∧ H a = some u ∧ RepOb K H u x from q)
    rw [h3] at e; cases e
    exact ⟨u, x, hb, r⟩
theorem RelS.notTup (R : RelS K S σ H) {a : Addr} {xs : List V} (h : H a = some (.tup xs)) : ¬ Owns S σ a := fun o => by
  obtain ⟨u, x, hu, r⟩ := R.owned o
  rw [h] at hu; cases hu
  exact r.notTup _ rfl
theorem RelS.notFrz (R : RelS K S σ H) {a : Addr} {o : Obj} {w : HO} (h : H a = some (.frz o w)) : ¬ Owns S σ a := fun q => by
  obtain ⟨u, x, hu, r⟩ := R.owned q
  rw [h] at hu; cases hu
  exact r.notFrz _ _ rfl
theorem RelS.notFree (R : RelS K S σ H) {a : Addr} (h : H a = none) : ¬ Owns S σ a := fun q => by
  obtain ⟨u, x, hu, r⟩ := R.owned q
  rw [h] at hu; cases hu
theorem RelS.ext (R : RelS K S σ H) (F : Frm S σ H S' σ' H') : Ext H H' :=
  ⟨fun a xs h => (F.keep a _ h (R.notTup h)).1, fun a o u h => (F.keep a _ h (R.notFrz h)).1⟩
/-- nothing of ours is touched, things may be made -/
theorem RelS.same (R : RelS K S σ H) (s : Same H H') : RelS K S σ H' := by
  have e := Ext.of_same s
  refine ⟨R.len, fun i sl h => ?_, R.dj⟩
  have q := R.sl i sl h
  cases sl with
  | no => trivial
  | hid => trivial
  | val x =>
    obtain ⟨v, h1, h2⟩ := (show ∃ v, σ[i]? = some (some v) ∧ Rep K H v x from q)
    exact ⟨v, h1, h2.ext e⟩
  | own x =>
    obtain ⟨a, u, h1, h2, h3⟩ := (show ∃ a u, σ[i]? = some (some (V.ref a)) ∧ H a = some u ∧ RepOb K H u x from q)
    exact ⟨a, u, h1, s _ _ h2, h3.ext e⟩
  | io x =>
    obtain ⟨a, u, h1, h2, h3⟩ := (show ∃ a u, σ[i]? = some (some (V.ref a)) ∧ H a = some u ∧ RepOb K H u x from q)
    exact ⟨a, u, h1, s _ _ h2, h3.ext e⟩
theorem Frm.same (s : Same H H') : Frm S σ H S σ H' := ⟨fun a o h n => ⟨s a o h, n⟩, fun _ s h p => ⟨⟨s, h, p⟩, rfl⟩⟩
/-- slots by place -/
theorem RelS.atVal (R : RelS K S σ H) {i : Nat} {x : PV} (h : S[i]? = some (.val x)) : ∃ v, σ[i]? = some (some v) ∧ Rep K H v x := R.sl i _ h
theorem RelS.atOwn (R : RelS K S σ H) {i : Nat} {x : PV} (h : S[i]? = some (.own x)) : ∃ a u, σ[i]? = some (some (V.ref a)) ∧ H a = some u ∧ RepOb K H u x := R.sl i _ h
theorem RelS.atIo (R : RelS K S σ H) {i : Nat} {x : PV} (h : S[i]? = some (.io x)) : ∃ a u, σ[i]? = some (some (V.ref a)) ∧ H a = some u ∧ RepOb K H u x := R.sl i _ h
end
theorem same_upd {H : Hp} {p : Addr} {u : HO} (n : H p = none) : Same H (upd H p u) := fun b o h => by rw [upd_ne (ne_of_none h n)]; exact h
end VL

set_option Elab.async false
set_option linter.all false
set_option autoImplicit false
set_option maxRecDepth 100000
set_option maxHeartbeats 4000000
/-! VL1: what an expression does to the slots; how it is told of the layer's readings; operators by what they do to values. -/
namespace VL
open PySem L2

/-- an error: its class, its fields -/
structure Exn where
  cls : Str
  flds : List (Str × PV)
inductive R (α : Type) where
  | stuck | ok (a : α) (S : Sk) | exc (x : Exn) (S : Sk)
def R.bind {α β : Type} (r : R α) (f : α → Sk → R β) : R β := match r with
  | .stuck => .stuck
  | .ok a S => f a S
  | .exc x S => .exc x S
@[simp] theorem R.bind_ok {α β : Type} (a : α) (S : Sk) (f : α → Sk → R β) : (R.ok a S).bind f = f a S := rfl
@[simp] theorem R.bind_stuck {α β : Type} (f : α → Sk → R β) : (R.stuck : R α).bind f = .stuck := rfl
@[simp] theorem R.bind_exc {α β : Type} (x : Exn) (S : Sk) (f : α → Sk → R β) : (R.exc x S : R α).bind f = .exc x S := rfl

def RepF (K : PySem.W.Frag) (H : Hp) : List (Str × V) → List (Str × PV) → Prop
  | [], [] => True
  | (f, v) :: vs, (g, x) :: xs => f = g ∧ Rep K H v x ∧ RepF K H vs xs
  | _, _ => False
/-- an error as it lies behind the raise: its class, its own dict -/
def ExnRep (K : PySem.W.Frag) (mg : Str → Option Value) (H : Hp) (cls : Value) (d : Option Addr) (x : Exn) : Prop :=
  mg x.cls = some cls ∧ ∃ dx vs, d = some dx ∧ H dx = some (.xd vs) ∧ RepF K H vs x.flds

section
variable (K : PySem.W.Frag) (mg : Str → Option Value) (W : WX)
def PostE (S : Sk) (σ : St) (H : Hp) (r : R PV) (Q : VK) : Prop := match r with
  | .stuck => False
  | .ok x S' => ∀ v H', Rep K H' v x → RelS K S' σ H' → Frm S σ H S' σ H' → Q v H'
  | .exc e S' => ∀ cls d H', ExnRep K mg H' cls d e → RelS K S' σ H' → Frm S σ H S' σ H' → W cls d σ H'
def LiftE (f : Sk → R PV) : TE := fun σ H Q => ∃ S, RelS K S σ H ∧ PostE K mg W S σ H (f S) Q
/-- a test -/
def PostT (S : Sk) (σ : St) (H : Hp) (r : R Bool) (Q : Bool → Hp → Prop) : Prop := match r with
  | .stuck => False
  | .ok x S' => ∀ H', RelS K S' σ H' → Frm S σ H S' σ H' → Q x H'
  | .exc e S' => ∀ cls d H', ExnRep K mg H' cls d e → RelS K S' σ H' → Frm S σ H S' σ H' → W cls d σ H'
def LiftT (f : Sk → R Bool) : TT := fun σ H Q => ∃ S, RelS K S σ H ∧ PostT K mg W S σ H (f S) Q
/-- a new object (list, dict) that nobody else holds -/
def PostL (S : Sk) (σ : St) (H : Hp) (r : R PV) (Q : VK) : Prop := match r with
  | .stuck => False
  | .ok x S' => ∀ p u H', H' p = some u → RepOb K H' u x → ¬ Owns S' σ p → (∀ o, H p = some o → Owns S σ p) → RelS K S' σ H' → Frm S σ H S' σ H' → Q (.ref p) H'
  | .exc e S' => ∀ cls d H', ExnRep K mg H' cls d e → RelS K S' σ H' → Frm S σ H S' σ H' → W cls d σ H'
def LiftL (f : Sk → R PV) : TE := fun σ H Q => ∃ S, RelS K S σ H ∧ PostL K mg W S σ H (f S) Q
/-- what an operator is given: a value, or what a slot of ours holds when all are reckoned -/
inductive OV where
  | v (x : PV) | s (j : Nat)
def OVRel (σ : St) (H : Hp) : OV → V → Prop
  | .v x, v => Rep K H v x
  | .s j, v => σ[j]? = some (some v)
def PostO (S : Sk) (σ : St) (H : Hp) (r : R OV) (Q : VK) : Prop := match r with
  | .stuck => False
  | .ok x S' => ∀ v H', OVRel K σ H' x v → RelS K S' σ H' → Frm S σ H S' σ H' → Q v H'
  | .exc e S' => ∀ cls d H', ExnRep K mg H' cls d e → RelS K S' σ H' → Frm S σ H S' σ H' → W cls d σ H'
def LiftO (f : Sk → R OV) : TE := fun σ H Q => ∃ S, RelS K S σ H ∧ PostO K mg W S σ H (f S) Q
end
structure EV (X : Cx) (W : WX) (e : Expr) (f : Sk → R PV) : Prop where
  pe : PE X e (LiftE X.K X.mg W f)
structure ET (X : Cx) (W : WX) (e : Expr) (f : Sk → R Bool) : Prop where
  pt : PT X e (LiftT X.K X.mg W f)
structure EL (X : Cx) (W : WX) (e : Expr) (f : Sk → R PV) : Prop where
  pe : PE X e (LiftL X.K X.mg W f)
structure EO (X : Cx) (W : WX) (e : Expr) (f : Sk → R OV) : Prop where
  pe : PE X e (LiftO X.K X.mg W f)
theorem PE.imp {X : Cx} {e : Expr} {t t' : TE} (h : PE X e t) (i : ∀ σ H Q, t' σ H Q → t σ H Q) : PE X e t' := ⟨fun pins s σ H Q I q => h.run pins s σ H Q I (i σ H Q q)⟩
theorem PT.imp {X : Cx} {e : Expr} {t t' : TT} (h : PT X e t) (i : ∀ σ H Q, t' σ H Q → t σ H Q) : PT X e t' := ⟨fun pins s σ H Q I q => h.run pins s σ H Q I (i σ H Q q)⟩

section
variable {X : Cx} {W : WX} {K : PySem.W.Frag} {mg : Str → Option Value} {S : Sk} {σ : St} {H H' : Hp}
theorem OVRel.ext (e : Ext H H') {o : OV} {v : V} (h : OVRel K σ H o v) : OVRel K σ H' o v := by
  cases o with
  | v x => exact Rep.ext e h
  | s j => exact h

/-! ### constants, slots -/
def cst (x : PV) : Sk → R PV := fun S => .ok x S
def var (i : Nat) : Sk → R PV := fun S => match S[i]? with
  | some (.val x) => .ok x S
  | _ => .stuck
theorem ev_cst {e : Expr} {v : V} {x : PV} (h : PE X e (tC v)) (r : ∀ H, Rep X.K H v x) : EV X W e (cst x) :=
  ⟨PE.imp h fun σ H Q ⟨S, R, q⟩ => q v H (r H) R .refl⟩
theorem ev_int {i : Int} {j : Nat} {pos : Pos} : EV X W (.Constant (.int i) j pos) (cst (.int i)) := ev_cst pe_int fun _ => .int i
theorem ev_bl {b : Bool} {j : Nat} {pos : Pos} : EV X W (.Constant (.bool b) j pos) (cst (.bl b)) := ev_cst pe_bl fun _ => .bl b
theorem ev_non {j : Nat} {pos : Pos} : EV X W (.Constant .none j pos) (cst .non) := ev_cst pe_non fun _ => .non
theorem ev_str {x : Str} {j : Nat} {pos : Pos} : EV X W (.Constant (.str x) j pos) (cst (.str x)) := ev_cst pe_str fun _ => .str x
theorem ev_var {i : Nat} {e : Expr} (h : PE X e (tVar i)) : EV X W e (var i) := by
  refine ⟨PE.imp h fun σ H Q ⟨S, R, q⟩ => ?_⟩
  unfold var at q
  split at q
  · rename_i x hx
    obtain ⟨v, h1, h2⟩ := R.atVal hx
    exact ⟨v, h1, q v H h2 R .refl⟩
  · exact (show False from q).elim
/-- an int of the module -/
theorem ev_glob {e : Expr} {v : V} {x : PV} (h : PE X e (tC v)) (r : ∀ H, Rep X.K H v x) : EV X W e (cst x) := ev_cst h r

/-! ### operands -/
def opv (f : Sk → R PV) : Sk → R OV := fun S => (f S).bind fun x S1 => .ok (.v x) S1
def ops (j : Nat) : Sk → R OV := fun S => match S[j]? with
  | some (.own _) => .ok (.s j) S
  | some (.io _) => .ok (.s j) S
  | _ => .stuck
theorem eo_ev {e : Expr} {f : Sk → R PV} (h : EV X W e f) : EO X W e (opv f) := by
  refine ⟨PE.imp h.pe fun σ H Q ⟨S, R, q⟩ => ⟨S, R, ?_⟩⟩
  unfold opv at q
  cases hf : f S with
  | stuck => rw [hf] at q; exact q
  | ok x S1 => rw [hf] at q; exact fun v H1 r1 R1 F1 => q v H1 r1 R1 F1
  | exc x S1 => rw [hf] at q; exact q
theorem eo_slot {j : Nat} {e : Expr} (h : PE X e (tVar j)) : EO X W e (ops j) := by
  refine ⟨PE.imp h fun σ H Q ⟨S, R, q⟩ => ?_⟩
  unfold ops at q
  split at q
  · rename_i x hx
    obtain ⟨a, u, h1, h2, h3⟩ := R.atOwn hx
    exact ⟨_, h1, q _ H h1 R .refl⟩
  · rename_i x hx
    obtain ⟨a, u, h1, h2, h3⟩ := R.atIo hx
    exact ⟨_, h1, q _ H h1 R .refl⟩
  · exact (show False from q).elim
def look (S : Sk) : OV → Option PV
  | .v x => some x
  | .s j => match S[j]? with
    | some (.own x) => some x
    | some (.io x) => some x
    | _ => none
/-- a value, or an object that may change -/
def RT (K : PySem.W.Frag) (H : Hp) (v : V) (x : PV) : Prop := Rep K H v x ∨ ∃ a u, v = .ref a ∧ H a = some u ∧ RepOb K H u x
theorem look_rt (R : RelS K S σ H) {o : OV} {v : V} {x : PV} (h : OVRel K σ H o v) (e : look S o = some x) : RT K H v x := by
  cases o with
  | v y => cases e; exact .inl h
  | s j =>
    have h' : σ[j]? = some (some v) := h
    simp only [look] at e
    split at e
    · rename_i y hy
      cases e
      obtain ⟨a, u, h1, h2, h3⟩ := R.atOwn hy
      rw [h'] at h1; cases h1
      exact .inr ⟨a, u, rfl, h2, h3⟩
    · rename_i y hy
      cases e
      obtain ⟨a, u, h1, h2, h3⟩ := R.atIo hy
      rw [h'] at h1; cases h1
      exact .inr ⟨a, u, rfl, h2, h3⟩
    · cases e

/-! ### operators -/
def op1 (sem : PV → Option PV) (a : Sk → R OV) : Sk → R PV := fun S => (a S).bind fun x S1 => match look S1 x with
  | some p => (match sem p with
    | some z => .ok z S1
    | none => .stuck)
  | none => .stuck
def op2 (sem : PV → PV → Option PV) (a b : Sk → R OV) : Sk → R PV := fun S => (a S).bind fun x S1 => (b S1).bind fun y S2 => match look S2 x, look S2 y with
  | some p, some q => (match sem p q with
    | some z => .ok z S2
    | none => .stuck)
  | _, _ => .stuck
/-- what follows an operation that makes a value -/
def Out (K : PySem.W.Frag) (H : Hp) (z : PV) (Q : VK) : Prop := ∀ v H', Rep K H' v z → Same H H' → Q v H'
/-- .. a new object -/
def OutL (K : PySem.W.Frag) (H : Hp) (z : PV) (Q : VK) : Prop := ∀ p u H', H p = none → H' p = some u → RepOb K H' u z → Same H H' → Q (.ref p) H'
def Sem1 (X : Cx) (out : PySem.W.Frag → Hp → PV → VK → Prop) (r : V → Hp → VK → Prop) (sem : PV → Option PV) : Prop := ∀ (H : Hp) (x : V) (p z : PV) (Q : VK), RT X.K H x p → sem p = some z → out X.K H z Q → r x H Q
def Sem2 (X : Cx) (out : PySem.W.Frag → Hp → PV → VK → Prop) (r : R2) (sem : PV → PV → Option PV) : Prop := ∀ (H : Hp) (x y : V) (p q z : PV) (Q : VK), RT X.K H x p → RT X.K H y q → sem p q = some z → out X.K H z Q → r x y H Q

theorem post_out {r : R PV} {S S0 : Sk} {z : PV} {Q : VK} {H0 : Hp} (R : RelS K S σ H) (F : Frm S0 σ H0 S σ H) (q : PostE K mg W S0 σ H0 (.ok z S) Q) : Out K H z Q :=
  fun v H' rv s => q v H' rv (R.same s) (F.trans (Frm.same s))
theorem post_outL {r : R PV} {S S0 : Sk} {z : PV} {Q : VK} {H0 : Hp} (R : RelS K S σ H) (F : Frm S0 σ H0 S σ H) (q : PostL K mg W S0 σ H0 (.ok z S) Q) : OutL K H z Q := by
  intro p u H' n hu ru s
  have hn : ¬ Owns S σ p := R.notFree n
  refine q p u H' hu ru hn (fun o ho => ?_) (R.same s) (F.trans (Frm.same s))
  by_cases hw : Owns S0 σ p
  · exact hw
  · have := (F.keep p o ho hw).1
    rw [n] at this; cases this

theorem lift1 {f : Sk → R OV} {sem : PV → Option PV} {r : V → Hp → VK → Prop} (hs : Sem1 X Out r sem) {σ : St} {H : Hp} {Q : VK} (h : LiftE X.K X.mg W (op1 sem f) σ H Q) : LiftO X.K X.mg W f σ H fun x H1 => r x H1 Q := by
  obtain ⟨S, R0, q⟩ := h
  refine ⟨S, R0, ?_⟩
  unfold op1 at q
  cases ha : f S with
  | stuck => rw [ha] at q; exact q
  | exc x S1 => rw [ha] at q; exact q
  | ok x S1 =>
    rw [ha, R.bind_ok] at q
    intro v H1 ov R1 F1
    split at q
    · rename_i p hp
      split at q
      · rename_i z hz
        exact hs H1 v p z Q (look_rt R1 ov hp) hz (post_out (r := .stuck) R1 F1 q)
      · exact (show False from q).elim
    · exact (show False from q).elim
theorem lift1L {f : Sk → R OV} {sem : PV → Option PV} {r : V → Hp → VK → Prop} (hs : Sem1 X OutL r sem) {σ : St} {H : Hp} {Q : VK} (h : LiftL X.K X.mg W (op1 sem f) σ H Q) : LiftO X.K X.mg W f σ H fun x H1 => r x H1 Q := by
  obtain ⟨S, R0, q⟩ := h
  refine ⟨S, R0, ?_⟩
  unfold op1 at q
  cases ha : f S with
  | stuck => rw [ha] at q; exact q
  | exc x S1 => rw [ha] at q; exact q
  | ok x S1 =>
    rw [ha, R.bind_ok] at q
    intro v H1 ov R1 F1
    split at q
    · rename_i p hp
      split at q
      · rename_i z hz
        exact hs H1 v p z Q (look_rt R1 ov hp) hz (post_outL (r := .stuck) R1 F1 q)
      · exact (show False from q).elim
    · exact (show False from q).elim
theorem lift2 {f g : Sk → R OV} {sem : PV → PV → Option PV} {r : R2} (hs : Sem2 X Out r sem) {σ : St} {H : Hp} {Q : VK} (h : LiftE X.K X.mg W (op2 sem f g) σ H Q) :
    LiftO X.K X.mg W f σ H fun x H1 => LiftO X.K X.mg W g σ H1 fun y H2 => r x y H2 Q := by
  obtain ⟨S, R0, q⟩ := h
  refine ⟨S, R0, ?_⟩
  unfold op2 at q
  cases ha : f S with
  | stuck => rw [ha] at q; exact q
  | exc x S1 => rw [ha] at q; exact q
  | ok x S1 =>
    rw [ha, R.bind_ok] at q
    intro v H1 ov R1 F1
    refine ⟨S1, R1, ?_⟩
    cases hb : g S1 with
    | stuck => rw [hb] at q; exact q
    | exc y S2 => rw [hb] at q; exact fun c d H2 er R2 F2 => q c d H2 er R2 (F1.trans F2)
    | ok y S2 =>
      rw [hb, R.bind_ok] at q
      intro u H2 ou R2 F2
      split at q
      · rename_i p q' hp hq
        split at q
        · rename_i z hz
          exact hs H2 v u p q' z Q (look_rt R2 (ov.ext (R1.ext F2)) hp) (look_rt R2 ou hq) hz (post_out (r := .stuck) R2 (F1.trans F2) q)
        · exact (show False from q).elim
      · exact (show False from q).elim
theorem lift2L {f g : Sk → R OV} {sem : PV → PV → Option PV} {r : R2} (hs : Sem2 X OutL r sem) {σ : St} {H : Hp} {Q : VK} (h : LiftL X.K X.mg W (op2 sem f g) σ H Q) :
    LiftO X.K X.mg W f σ H fun x H1 => LiftO X.K X.mg W g σ H1 fun y H2 => r x y H2 Q := by
  obtain ⟨S, R0, q⟩ := h
  refine ⟨S, R0, ?_⟩
  unfold op2 at q
  cases ha : f S with
  | stuck => rw [ha] at q; exact q
  | exc x S1 => rw [ha] at q; exact q
  | ok x S1 =>
    rw [ha, R.bind_ok] at q
    intro v H1 ov R1 F1
    refine ⟨S1, R1, ?_⟩
    cases hb : g S1 with
    | stuck => rw [hb] at q; exact q
    | exc y S2 => rw [hb] at q; exact fun c d H2 er R2 F2 => q c d H2 er R2 (F1.trans F2)
    | ok y S2 =>
      rw [hb, R.bind_ok] at q
      intro u H2 ou R2 F2
      split at q
      · rename_i p q' hp hq
        split at q
        · rename_i z hz
          exact hs H2 v u p q' z Q (look_rt R2 (ov.ext (R1.ext F2)) hp) (look_rt R2 ou hq) hz (post_outL (r := .stuck) R2 (F1.trans F2) q)
        · exact (show False from q).elim
      · exact (show False from q).elim

variable {a b : Expr} {fa fb : Sk → R OV} {pos : Pos}
theorem ev_bin {op : Operator} {r : R2} {sem : PV → PV → Option PV} (ho : OpR X (binaryOp op) r) (hs : Sem2 X Out r sem) (ha : EO X W a fa) (hb : EO X W b fb) : EV X W (.BinOp a op b pos) (op2 sem fa fb) :=
  ⟨PE.imp (pe_op ho ha.pe hb.pe) fun _ _ _ h => lift2 hs h⟩
theorem el_bin {op : Operator} {r : R2} {sem : PV → PV → Option PV} (ho : OpR X (binaryOp op) r) (hs : Sem2 X OutL r sem) (ha : EO X W a fa) (hb : EO X W b fb) : EL X W (.BinOp a op b pos) (op2 sem fa fb) :=
  ⟨PE.imp (pe_op ho ha.pe hb.pe) fun _ _ _ h => lift2L hs h⟩
theorem ev_cmp {op : CmpOp} {r : R2} {sem : PV → PV → Option PV} (ho : OpR X (compareOp op) r) (hs : Sem2 X Out r sem) (ha : EO X W a fa) (hb : EO X W b fb) (hm : behindInMarks op b = false) : EV X W (.Compare a [op] [b] pos) (op2 sem fa fb) :=
  ⟨PE.imp (pe_cmpR ho ha.pe hb.pe hm) fun _ _ _ h => lift2 hs h⟩
theorem ev_un {op : UnaryOp} {r : V → Hp → VK → Prop} {sem : PV → Option PV} (ho : UnR X (unaryOp op) r) (hs : Sem1 X Out r sem) (ha : EO X W a fa) : EV X W (.UnaryOp op a pos) (op1 sem fa) :=
  ⟨PE.imp (pe_un ho ha.pe) fun _ _ _ h => lift1 hs h⟩
theorem ev_ix {r : R2} {sem : PV → PV → Option PV} (ho : IxR X r) (hs : Sem2 X Out r sem) (ha : EO X W a fa) (hb : EO X W b fb) (hi : PlainIx b) : EV X W (.Subscript a b pos) (op2 sem fa fb) :=
  ⟨PE.imp (pe_ix ho ha.pe hb.pe hi) fun _ _ _ h => lift2 hs h⟩

/-! ### tests -/
def tst (f : Sk → R PV) : Sk → R Bool := fun S => (f S).bind fun x S1 => match x with
  | .bl b => .ok b S1
  | _ => .stuck
theorem liftTst {f : Sk → R PV} {σ : St} {H : Hp} {Q : Bool → Hp → Prop} (h : LiftT K mg W (tst f) σ H Q) : LiftE K mg W f σ H fun x H1 => ∃ c, x = .bl c ∧ Q c H1 := by
  obtain ⟨S, R0, q⟩ := h
  refine ⟨S, R0, ?_⟩
  unfold tst at q
  cases ha : f S with
  | stuck => rw [ha] at q; exact q
  | exc x S1 => rw [ha] at q; exact q
  | ok x S1 =>
    rw [ha, R.bind_ok] at q
    intro v H1 rv R1 F1
    split at q
    · cases rv
      exact ⟨_, rfl, q H1 R1 F1⟩
    · exact (show False from q).elim
theorem et_val {e : Expr} {f : Sk → R PV} (h : EV X W e f) (he : ∀ whole, isTrue e X.env whole = (do let v ← whole; standAt e.pos; holding [v] (truthy v))) : ET X W e (tst f) :=
  ⟨PT.imp (pt_val h.pe he) fun _ _ _ h => liftTst h⟩
/-- a comparison as a test -/
theorem lift2T {f g : Sk → R OV} {sem : PV → PV → Option PV} {r : R2} (hs : Sem2 X Out r sem) {σ : St} {H : Hp} {Q : Bool → Hp → Prop} (h : LiftT X.K X.mg W (tst (op2 sem f g)) σ H Q) :
    tTest (tOp r (LiftO X.K X.mg W f) (LiftO X.K X.mg W g)) σ H Q := lift2 hs (liftTst h)
theorem et_cmp {op : CmpOp} {r : R2} {sem : PV → PV → Option PV} (ho : OpR X (compareOp op) r) (hs : Sem2 X Out r sem) (ha : EO X W a fa) (hb : EO X W b fb) (hm : behindInMarks op b = false) : ET X W (.Compare a [op] [b] pos) (tst (op2 sem fa fb)) :=
  ⟨PT.imp (pt_cmpR ho ha.pe hb.pe hm) fun _ _ _ h => lift2T hs h⟩
def tAndF (f g : Sk → R Bool) : Sk → R Bool := fun S => (f S).bind fun b S1 => if b = true then g S1 else .ok false S1
def tOrF (f g : Sk → R Bool) : Sk → R Bool := fun S => (f S).bind fun b S1 => if b = true then .ok true S1 else g S1
def tNotF (f : Sk → R Bool) : Sk → R Bool := fun S => (f S).bind fun b S1 => .ok (!b) S1
theorem liftBindT {α : Type} {f : Sk → R Bool} {g : Bool → Sk → R Bool} {σ : St} {H : Hp} {Q : Bool → Hp → Prop} (h : LiftT K mg W (fun S => (f S).bind g) σ H Q) :
    LiftT K mg W f σ H fun b H1 => LiftT K mg W (g b) σ H1 Q := by
  obtain ⟨S, R0, q⟩ := h
  refine ⟨S, R0, ?_⟩
  have q' : PostT K mg W S σ H ((f S).bind g) Q := q
  cases ha : f S with
  | stuck => rw [ha] at q'; exact q'
  | exc x S1 => rw [ha] at q'; exact q'
  | ok x S1 =>
    rw [ha, R.bind_ok] at q'
    intro H1 R1 F1
    refine ⟨S1, R1, ?_⟩
    cases hb : g x S1 with
    | stuck => rw [hb] at q'; exact q'
    | exc y S2 => rw [hb] at q'; exact fun c d H2 er R2 F2 => q' c d H2 er R2 (F1.trans F2)
    | ok y S2 => rw [hb] at q'; exact fun H2 R2 F2 => q' H2 R2 (F1.trans F2)
theorem liftOkT {b : Bool} {σ : St} {H : Hp} {Q : Bool → Hp → Prop} (h : LiftT K mg W (fun S => .ok b S) σ H Q) : Q b H := by
  obtain ⟨S, R0, q⟩ := h
  exact q H R0 .refl
/-- a test whatever its whole is -/
structure EW (X : Cx) (W : WX) (e : Expr) (f : Sk → R Bool) : Prop where
  pw : PW X e (LiftT X.K X.mg W f)
theorem EW.et {e : Expr} {f : Sk → R Bool} (h : EW X W e f) : ET X W e f := ⟨h.pw.pt⟩
theorem PW.imp {e : Expr} {t t' : TT} (h : PW X e t) (i : ∀ σ H Q, t' σ H Q → t σ H Q) : PW X e t' := ⟨fun wh pins s σ H Q I q => h.run wh pins s σ H Q I (i σ H Q q)⟩
variable {rest : List Expr} {ga gb : Sk → R Bool}
theorem ew_and1 (ha : ET X W a ga) : EW X W (.BoolOp .And [a] pos) ga := ⟨pw_and1 ha.pt⟩
theorem ew_or1 (ha : ET X W a ga) : EW X W (.BoolOp .Or [a] pos) ga := ⟨pw_or1 ha.pt⟩
theorem ew_and (ha : ET X W a ga) (hb : EW X W (.BoolOp .And (b :: rest) pos) gb) : EW X W (.BoolOp .And (a :: b :: rest) pos) (tAndF ga gb) :=
  ⟨PW.imp (pw_and ha.pt hb.pw) fun σ H Q h => by
    have h1 := liftBindT (α := Bool) (f := ga) (g := fun b S1 => if b = true then gb S1 else .ok false S1) h
    obtain ⟨S, R0, q⟩ := h1
    refine ⟨S, R0, ?_⟩
    cases ha : ga S with
    | stuck => rw [ha] at q; exact q
    | exc x S1 => rw [ha] at q; exact q
    | ok x S1 =>
      rw [ha] at q
      intro H1 R1 F1
      have z := q H1 R1 F1
      cases x with
      | true => exact z
      | false => exact liftOkT z⟩
theorem ew_or (ha : ET X W a ga) (hb : EW X W (.BoolOp .Or (b :: rest) pos) gb) : EW X W (.BoolOp .Or (a :: b :: rest) pos) (tOrF ga gb) :=
  ⟨PW.imp (pw_or ha.pt hb.pw) fun σ H Q h => by
    have h1 := liftBindT (α := Bool) (f := ga) (g := fun b S1 => if b = true then .ok true S1 else gb S1) h
    obtain ⟨S, R0, q⟩ := h1
    refine ⟨S, R0, ?_⟩
    cases ha : ga S with
    | stuck => rw [ha] at q; exact q
    | exc x S1 => rw [ha] at q; exact q
    | ok x S1 =>
      rw [ha] at q
      intro H1 R1 F1
      have z := q H1 R1 F1
      cases x with
      | false => exact z
      | true => exact liftOkT z⟩
theorem et_not (ha : ET X W a ga) : ET X W (.UnaryOp .Not a pos) (tNotF ga) :=
  ⟨PT.imp (pt_not ha.pt) fun σ H Q h => by
    have h1 := liftBindT (α := Bool) (f := ga) (g := fun b S1 => .ok (!b) S1) h
    obtain ⟨S, R0, q⟩ := h1
    refine ⟨S, R0, ?_⟩
    cases ha : ga S with
    | stuck => rw [ha] at q; exact q
    | exc x S1 => rw [ha] at q; exact q
    | ok x S1 =>
      rw [ha] at q
      exact fun H1 R1 F1 => liftOkT (q H1 R1 F1)⟩

/-! ### and, or, not, if as values -/
theorem liftBindE {f : Sk → R PV} {g : PV → Sk → R PV} {σ : St} {H : Hp} {Q : VK} (h : LiftE K mg W (fun S => (f S).bind g) σ H Q) :
    ∃ S, RelS K S σ H ∧ match f S with
      | .stuck => False
      | .ok x S1 => ∀ v H1, Rep K H1 v x → RelS K S1 σ H1 → Frm S σ H S1 σ H1 → LiftE K mg W (g x) σ H1 Q
      | .exc e S1 => ∀ cls d H1, ExnRep K mg H1 cls d e → RelS K S1 σ H1 → Frm S σ H S1 σ H1 → W cls d σ H1 := by
  obtain ⟨S, R0, q⟩ := h
  refine ⟨S, R0, ?_⟩
  have q' : PostE K mg W S σ H ((f S).bind g) Q := q
  cases ha : f S with
  | stuck => rw [ha] at q'; exact q'
  | exc x S1 => rw [ha] at q'; exact q'
  | ok x S1 =>
    rw [ha, R.bind_ok] at q'
    intro v H1 rv R1 F1
    refine ⟨S1, R1, ?_⟩
    cases hb : g x S1 with
    | stuck => rw [hb] at q'; exact q'
    | exc y S2 => rw [hb] at q'; exact fun c d H2 er R2 F2 => q' c d H2 er R2 (F1.trans F2)
    | ok y S2 => rw [hb] at q'; exact fun u H2 ru R2 F2 => q' u H2 ru R2 (F1.trans F2)
theorem liftOkE {x : PV} {v : V} {σ : St} {H : Hp} {Q : VK} (h : LiftE K mg W (fun S => .ok x S) σ H Q) (r : Rep K H v x) : Q v H := by
  obtain ⟨S, R0, q⟩ := h
  exact q v H r R0 .refl
def vAndF (f g : Sk → R PV) : Sk → R PV := fun S => (f S).bind fun x S1 => match x with
  | .bl true => g S1
  | .bl false => .ok (.bl false) S1
  | _ => .stuck
def vOrF (f g : Sk → R PV) : Sk → R PV := fun S => (f S).bind fun x S1 => match x with
  | .bl true => .ok (.bl true) S1
  | .bl false => g S1
  | _ => .stuck
def vNotF (f : Sk → R PV) : Sk → R PV := fun S => (f S).bind fun x S1 => match x with
  | .bl b => .ok (.bl (!b)) S1
  | _ => .stuck
variable {va vb : Sk → R PV}
theorem lift_stuck {σ : St} {H : Hp} {Q : VK} (h : LiftE K mg W (fun _ => .stuck) σ H Q) : False := by
  obtain ⟨S, R0, q⟩ := h
  exact q
theorem ev_one {op : BoolOp} (h : EV X W a va) : EV X W (.BoolOp op [a] pos) va := ⟨pe_one h.pe⟩
theorem ev_and (ha : EV X W a va) (hb : EV X W (.BoolOp .And (b :: rest) pos) vb) : EV X W (.BoolOp .And (a :: b :: rest) pos) (vAndF va vb) :=
  ⟨PE.imp (pe_and ha.pe hb.pe) fun σ H Q h => by
    obtain ⟨S, R0, q⟩ := liftBindE h
    refine ⟨S, R0, ?_⟩
    cases ha : va S with
    | stuck => rw [ha] at q; exact q
    | exc x S1 => rw [ha] at q; exact q
    | ok x S1 =>
      rw [ha] at q
      intro v H1 rv R1 F1
      have z := q v H1 rv R1 F1
      cases x <;> first | exact (lift_stuck z).elim | skip
      rename_i c
      cases rv
      refine ⟨c, rfl, ?_⟩
      cases c with
      | true => exact z
      | false => exact liftOkE z (.bl false)⟩
theorem ev_or (ha : EV X W a va) (hb : EV X W (.BoolOp .Or (b :: rest) pos) vb) : EV X W (.BoolOp .Or (a :: b :: rest) pos) (vOrF va vb) :=
  ⟨PE.imp (pe_or ha.pe hb.pe) fun σ H Q h => by
    obtain ⟨S, R0, q⟩ := liftBindE h
    refine ⟨S, R0, ?_⟩
    cases ha : va S with
    | stuck => rw [ha] at q; exact q
    | exc x S1 => rw [ha] at q; exact q
    | ok x S1 =>
      rw [ha] at q
      intro v H1 rv R1 F1
      have z := q v H1 rv R1 F1
      cases x <;> first | exact (lift_stuck z).elim | skip
      rename_i c
      cases rv
      refine ⟨c, rfl, ?_⟩
      cases c with
      | false => exact z
      | true => exact liftOkE z (.bl true)⟩
theorem ev_not (ha : EV X W a va) : EV X W (.UnaryOp .Not a pos) (vNotF va) :=
  ⟨PE.imp (pe_not ha.pe) fun σ H Q h => by
    obtain ⟨S, R0, q⟩ := liftBindE h
    refine ⟨S, R0, ?_⟩
    cases ha : va S with
    | stuck => rw [ha] at q; exact q
    | exc x S1 => rw [ha] at q; exact q
    | ok x S1 =>
      rw [ha] at q
      intro v H1 rv R1 F1
      have z := q v H1 rv R1 F1
      cases x <;> first | exact (lift_stuck z).elim | skip
      rename_i c
      cases rv
      exact ⟨c, rfl, liftOkE z (.bl (!c))⟩⟩
def ifF (c : Sk → R Bool) (f g : Sk → R PV) : Sk → R PV := fun S => (c S).bind fun b S1 => if b = true then f S1 else g S1
theorem ev_if {c : Expr} {gc : Sk → R Bool} (hc : ET X W c gc) (ha : EV X W a va) (hb : EV X W b vb) : EV X W (.IfExp c a b pos) (ifF gc va vb) :=
  ⟨PE.imp (pe_ifExp hc.pt ha.pe hb.pe) fun σ H Q ⟨S, R0, q⟩ => by
    refine ⟨S, R0, ?_⟩
    unfold ifF at q
    cases hc : gc S with
    | stuck => rw [hc] at q; exact q
    | exc x S1 => rw [hc] at q; exact q
    | ok x S1 =>
      rw [hc, R.bind_ok] at q
      intro H1 R1 F1
      have go : ∀ {r : R PV}, PostE X.K X.mg W S σ H r Q → PostE X.K X.mg W S1 σ H1 r Q := fun {r} z => by
        cases r with
        | stuck => exact z
        | exc y S2 => exact fun c d H2 er R2 F2 => z c d H2 er R2 (F1.trans F2)
        | ok y S2 => exact fun u H2 ru R2 F2 => z u H2 ru R2 (F1.trans F2)
      cases x with
      | true => exact ⟨S1, R1, go q⟩
      | false => exact ⟨S1, R1, go q⟩⟩

/-! ### a new object is given out for good -/
/-- an object that nobody writes any more -/
theorem freeze_inv {pins : List (Addr × Obj)} {σ : St} {H : Hp} {s : Shared} {p : Addr} {u : HO} {x : PV} (I : Inv X pins σ H s) (hu : H p = some u) (r : RepOb X.K H u x) : ∃ o, Inv X pins σ (upd H p (.frz o u)) s :=
  I.lock hu r.mut
theorem freeze_ext {S : Sk} (R : RelS K S σ H) {p : Addr} {u : HO} {x : PV} {o : Obj} (hu : H p = some u) (r : RepOb K H u x) : Ext H (upd H p (.frz o u)) :=
  ⟨fun a xs h => by rw [upd_ne (ne_of h hu (by intro e; exact r.notTup xs e.symm))]; exact h, fun a o' w h => by rw [upd_ne (ne_of h hu (by intro e; exact r.notFrz o' w e.symm))]; exact h⟩
theorem RelS.freeze {S : Sk} (R : RelS K S σ H) {p : Addr} {u : HO} {x : PV} {o : Obj} (hu : H p = some u) (r : RepOb K H u x) (hn : ¬ Owns S σ p) : RelS K S σ (upd H p (.frz o u)) := by
  have e := freeze_ext (o := o) R hu r
  have ne : ∀ (i : Nat) (s : Sl) (a : Addr), S[i]? = some s → ownd s = true → σ[i]? = some (some (V.ref a)) → a ≠ p := fun i s a h1 h2 h3 z => hn ⟨i, s, h1, h2, by rw [← z]; exact h3⟩
  refine ⟨R.len, fun i sl h => ?_, R.dj⟩
  have q := R.sl i sl h
  cases sl with
  | no => trivial
  | hid => trivial
  | val y =>
    obtain ⟨v, h1, h2⟩ := R.atVal h
    exact ⟨v, h1, h2.ext e⟩
  | own y =>
    obtain ⟨a, w, h1, h2, h3⟩ := R.atOwn h
    exact ⟨a, w, h1, by rw [upd_ne (ne i _ a h rfl h1)]; exact h2, h3.ext e⟩
  | io y =>
    obtain ⟨a, w, h1, h2, h3⟩ := R.atIo h
    exact ⟨a, w, h1, by rw [upd_ne (ne i _ a h rfl h1)]; exact h2, h3.ext e⟩
theorem ev_fz {e : Expr} {f : Sk → R PV} (h : EL X W e f) : EV X W e f := by
  refine ⟨⟨fun pins s σ H Q I ⟨S, R0, q⟩ => ?_⟩⟩
  have hL : LiftL X.K X.mg W f σ H fun v H1 => ∃ p u x S', v = .ref p ∧ H1 p = some u ∧ RepOb X.K H1 u x ∧ f S = .ok x S' ∧ ¬ Owns S' σ p ∧ (∀ o, H p = some o → Owns S σ p) ∧ RelS X.K S' σ H1 ∧ Frm S σ H S' σ H1 := by
    refine ⟨S, R0, ?_⟩
    cases hf : f S with
    | stuck => rw [hf] at q; exact q
    | exc y S1 => rw [hf] at q; exact q
    | ok x S1 => exact fun p u H1 h1 h2 h3 h4 h5 h6 => ⟨p, u, x, S1, rfl, h1, h2, rfl, h3, h4, h5, h6⟩
  refine thn (h.pe.run pins s σ H _ I hL) fun w s1 ⟨v, H1, I1, rv, p, u, x, S', ev, hu, ru, hf, hn, hw, R1, F1⟩ => ?_
  subst ev
  obtain ⟨o, I2⟩ := freeze_inv I1 hu ru
  have ex := freeze_ext (o := o) R1 hu ru
  rw [hf] at q
  refine ⟨.ref p, _, I2, rv, q _ _ ((ru.ext ex).frz upd_same) (R1.freeze hu ru hn) ⟨fun a ob ha na => ?_, F1.io⟩⟩
  have z := F1.keep a ob ha na
  refine ⟨?_, z.2⟩
  rw [upd_ne (fun e => ?_)]
  · exact z.1
  · subst e
    exact na (hw ob ha)
end
end VL

set_option Elab.async false
set_option linter.all false
set_option autoImplicit false
set_option maxRecDepth 100000
set_option maxHeartbeats 4000000
/-! VL2: the operators and built-ins by what they do to values. -/
namespace VL
open PySem L2

section
variable {K : PySem.W.Frag} {H : Hp} {v : V}
theorem ro_none {u : HO} {x : PV} (h : RepOb K H u x) : (∃ xs, x = .lst xs) ∨ (∃ xs, x = .dk xs) ∨ ∃ xs, x = .dt xs := by
  cases u <;> cases x <;> first | exact (show False from h).elim | exact .inl ⟨_, rfl⟩ | exact .inr (.inl ⟨_, rfl⟩) | exact .inr (.inr ⟨_, rfl⟩)
theorem RT.non (h : RT K H v .non) : v = .non := by
  rcases h with h | ⟨_, u, _, _, h⟩
  · cases h; rfl
  · cases u <;> exact (show False from h).elim
theorem RT.bl {b : Bool} (h : RT K H v (.bl b)) : v = .bl b := by
  rcases h with h | ⟨_, u, _, _, h⟩
  · cases h; rfl
  · cases u <;> exact (show False from h).elim
theorem RT.int {i : Int} (h : RT K H v (.int i)) : v = .int i := by
  rcases h with h | ⟨_, u, _, _, h⟩
  · cases h; rfl
  · cases u <;> exact (show False from h).elim
theorem RT.str {x : Str} (h : RT K H v (.str x)) : v = .str x := by
  rcases h with h | ⟨_, u, _, _, h⟩
  · cases h; rfl
  · cases u <;> exact (show False from h).elim
theorem RT.tup {xs : List PV} (h : RT K H v (.tup xs)) : ∃ a vs, v = .ref a ∧ H a = some (.tup vs) ∧ RepA K H vs xs := by
  rcases h with h | ⟨_, u, _, _, h⟩
  · cases h with
    | tup h1 h2 => exact ⟨_, _, rfl, h1, h2⟩
  · cases u <;> exact (show False from h).elim
theorem RT.lstR {xs : List PV} (h : RT K H v (.lst xs)) : ∃ a vs, v = .ref a ∧ Rd H a (.lst vs) ∧ RepA K H vs xs := by
  rcases h with h | ⟨a, u, rfl, e, h⟩
  · cases h with
    | lst h1 h2 => exact ⟨_, _, rfl, .inr ⟨_, h1⟩, h2⟩
  · cases u <;> first | exact (show False from h).elim | exact ⟨_, _, rfl, .inl e, h⟩
theorem RT.lst {xs : List PV} (h : RT K H v (.lst xs)) : ∃ a vs, v = .ref a ∧ SqL K H a vs ∧ RepA K H vs xs := by
  obtain ⟨a, vs, e, r, h⟩ := h.lstR
  exact ⟨a, vs, e, .inl r, h⟩
theorem RT.scr {ns : List Int} (h : RT K H v (.scr ns)) : ∃ a, v = .ref a ∧ FzL K H a (ns.map V.int) := by
  rcases h with h | ⟨_, u, _, _, h⟩
  · cases h with
    | scr h1 => exact ⟨_, rfl, h1⟩
  · cases u <;> exact (show False from h).elim
theorem RT.dk {kvs : List (Key × PV)} (h : RT K H v (.dk kvs)) : ∃ a ws, v = .ref a ∧ Rd H a (.dK ws) ∧ RepK K H ws kvs := by
  rcases h with h | ⟨a, u, rfl, e, h⟩
  · cases h with
    | dk h1 h2 => exact ⟨_, _, rfl, .inr ⟨_, h1⟩, h2⟩
  · cases u <;> first | exact (show False from h).elim | exact ⟨_, _, rfl, .inl e, h⟩
theorem RT.dt {kvs : List (List Key × PV)} (h : RT K H v (.dt kvs)) : ∃ a ws, v = .ref a ∧ Rd H a (.dT ws) ∧ RepT K H ws kvs := by
  rcases h with h | ⟨a, u, rfl, e, h⟩
  · cases h with
    | dt h1 h2 => exact ⟨_, _, rfl, .inr ⟨_, h1⟩, h2⟩
  · cases u <;> first | exact (show False from h).elim | exact ⟨_, _, rfl, .inl e, h⟩
end

/-! ### as plain data -/
mutual
def toPD : PV → PyData
  | .non => .none
  | .bl b => .bool b
  | .int i => .int i
  | .str x => .str x
  | .tup xs => .tuple (toPDs xs)
  | .lst xs => .list (toPDs xs)
  | .dk _ => .dict []
  | .dt _ => .dict []
  | .scr ns => .list (ns.map .int)
def toPDs : List PV → List PyData
  | [] => []
  | x :: xs => toPD x :: toPDs xs
end
theorem toPDs_map (xs : List PV) : toPDs xs = xs.map toPD := by
  induction xs with
  | nil => rfl
  | cons x xs ih => rw [toPDs, ih, List.map_cons]
section
variable {K : PySem.W.Frag} {H : Hp}
theorem dp_ints : ∀ ns : List Int, DpAll K H (ns.map V.int) (ns.map PyData.int)
  | [] => .nil
  | n :: ns => .cons (.int n) (dp_ints ns)
mutual
theorem Rep.dp : ∀ {v : V} {x : PV}, Rep K H v x → (toPD x).canLay0 = true → Dp K H v (toPD x)
  | _, _, .non, _ => .non
  | _, _, .bl b, _ => .bl b
  | _, _, .int i, _ => .int i
  | _, _, .str x, _ => .str x
  | _, .tup xs, .tup h r, c => .tup (SqT.of h) (RepA.dp r (by simpa [toPD, PyData.canLay0] using c))
  | _, .lst xs, .lst h r, c => .lst (.inl (.inr ⟨_, h⟩)) (RepA.dp r (by simpa [toPD, PyData.canLay0] using c))
  | _, .scr ns, .scr h, c => .lst h.sq (dp_ints ns)
  | _, .dk _, .dk h r, c => by simp [toPD, PyData.canLay0] at c
  | _, .dt _, .dt h r, c => by simp [toPD, PyData.canLay0] at c
theorem RepA.dp : ∀ {vs : List V} {xs : List PV}, RepA K H vs xs → PyData.canLayAll0 (toPDs xs) = true → DpAll K H vs (toPDs xs)
  | _, _, .nil, _ => .nil
  | _, x :: xs, .cons r rs, c => by
    have c' : (toPD x).canLay0 = true ∧ PyData.canLayAll0 (toPDs xs) = true := by simpa [toPDs, PyData.canLayAll0] using c
    exact .cons (Rep.dp r c'.1) (RepA.dp rs c'.2)
end
theorem RT.dp {v : V} {x : PV} (h : RT K H v x) (c : (toPD x).canLay0 = true) : Dp K H v (toPD x) := by
  rcases h with h | ⟨a, u, rfl, e, h⟩
  · exact h.dp c
  · cases u <;> cases x <;> first | exact (show False from h).elim | skip
    · exact .lst (SqL.of e) (RepA.dp h (by simpa [toPD, PyData.canLay0] using c))
    · simp [toPD, PyData.canLay0] at c
    · simp [toPD, PyData.canLay0] at c
end
/-- may be compared by == as data -/
def pOk (x : PV) : Bool := SeqAt.shaped (toPD x)
def pEqv (x y : PV) : Bool := PyData.eqv (toPD x) (toPD y)
theorem pOk_lay {x : PV} (h : pOk x = true) : (toPD x).canLay0 = true := SeqAt.canLay_of_shaped h
theorem pOk_depth {x : PV} (h : pOk x = true) : (toPD x).depth ≤ 64 := SeqAt.depth_of_shaped h

def sEq : PV → PV → Option PV := fun x y => if pOk x = true ∧ pOk y = true then some (.bl (pEqv x y)) else none
def sNe : PV → PV → Option PV := fun x y => if pOk x = true ∧ pOk y = true then some (.bl (!pEqv x y)) else none
section
variable {X : Cx}
theorem s_eq : Sem2 X Out (rEqD X.K) sEq := by
  intro H x y p q z Q hx hy e o
  unfold sEq at e
  split at e
  · rename_i h
    cases e
    exact ⟨_, _, hx.dp (pOk_lay h.1), hy.dp (pOk_lay h.2), h.1, h.2, o _ H (.bl _) (Same.refl H)⟩
  · cases e
theorem s_ne : Sem2 X Out (rNeD X.K) sNe := by
  intro H x y p q z Q hx hy e o
  unfold sNe at e
  split at e
  · rename_i h
    cases e
    exact ⟨_, _, hx.dp (pOk_lay h.1), hy.dp (pOk_lay h.2), h.1, h.2, o _ H (.bl _) (Same.refl H)⟩
  · cases e

/-! ### in, not in -/
def rInS (K : PySem.W.Frag) (neg : Bool) : R2 := fun x y H Q => ∃ d ds, Dp K H x d ∧ (Dp K H y (.list ds) ∨ Dp K H y (.tuple ds)) ∧ SeqAt.shaped d = true ∧ PyData.canLayAll0 ds = true ∧
  Q (.bl (if neg then !ds.any fun z => PyData.eqv z d else ds.any fun z => PyData.eqv z d)) H
theorem room_in {A : Around} {d : PyData} {ds : List PyData} (h : SeqAt.shaped d = true) (hu : A.units + 65 < cLine) : A.units + 1 + min (PyData.depthAll ds) d.depth < cLine := by
  have h1 := SeqAt.depth_of_shaped h
  have h2 : min (PyData.depthAll ds) d.depth ≤ d.depth := Nat.min_le_right _ _
  omega
theorem op_inS (hu : X.A.units + 65 < cLine) : OpR X (compareOp .In) (rInS X.K false) := by
  intro pins s σ H x y v u Q I rx ry h
  obtain ⟨d, ds, hd, he, sd, se, q⟩ := h
  obtain ⟨as, r1⟩ := Dp.reads I d x v hd rx
  rcases he with he | he
  · obtain ⟨bs, r2⟩ := Dp.reads I (.list ds) y u he ry
    exact SeqAt.in_list_reads r2 r1 se (SeqAt.canLay_of_shaped sd) (room_in sd hu) ⟨.bl _, H, I, rfl, q⟩
  · obtain ⟨bs, r2⟩ := Dp.reads I (.tuple ds) y u he ry
    exact SeqAt.in_tuple_reads r2 r1 se (SeqAt.canLay_of_shaped sd) (room_in sd hu) ⟨.bl _, H, I, rfl, q⟩
theorem op_notInS (hu : X.A.units + 65 < cLine) : OpR X (compareOp .NotIn) (rInS X.K true) := by
  intro pins s σ H x y v u Q I rx ry h
  obtain ⟨d, ds, hd, he, sd, se, q⟩ := h
  obtain ⟨as, r1⟩ := Dp.reads I d x v hd rx
  rcases he with he | he
  · obtain ⟨bs, r2⟩ := Dp.reads I (.list ds) y u he ry
    exact SeqAt.notIn_list_reads r2 r1 se (SeqAt.canLay_of_shaped sd) (room_in sd hu) ⟨.bl _, H, I, rfl, q⟩
  · obtain ⟨bs, r2⟩ := Dp.reads I (.tuple ds) y u he ry
    exact SeqAt.notIn_tuple_reads r2 r1 se (SeqAt.canLay_of_shaped sd) (room_in sd hu) ⟨.bl _, H, I, rfl, q⟩
/-- the items of a list, a tuple -/
def itemsOf : PV → Option (List PV)
  | .tup xs => some xs
  | .lst xs => some xs
  | _ => none
def pAny (x : PV) (xs : List PV) : Bool := xs.any fun z => pEqv z x
def sIn (neg : Bool) : PV → PV → Option PV := fun x y => match y with
  | .tup xs => if pOk x = true ∧ PyData.canLayAll0 (toPDs xs) = true then some (.bl (if neg then !pAny x xs else pAny x xs)) else none
  | .lst xs => if pOk x = true ∧ PyData.canLayAll0 (toPDs xs) = true then some (.bl (if neg then !pAny x xs else pAny x xs)) else none
  | _ => none
theorem pAny_pd (x : PV) (xs : List PV) : ((toPDs xs).any fun z => PyData.eqv z (toPD x)) = pAny x xs := by
  rw [toPDs_map, List.any_map]
  rfl
theorem s_in (neg : Bool) : Sem2 X Out (rInS X.K neg) (sIn neg) := by
  intro H x y p q z Q hx hy e o
  unfold sIn at e
  split at e
  · split at e
    · rename_i xs h
      cases e
      refine ⟨_, _, hx.dp (pOk_lay h.1), .inr (hy.dp (x := .tup xs) (by simpa [toPD, PyData.canLay0] using h.2)), h.1, h.2, ?_⟩
      rw [pAny_pd]
      exact o _ H (.bl _) (Same.refl H)
    · cases e
  · split at e
    · rename_i xs h
      cases e
      refine ⟨_, _, hx.dp (pOk_lay h.1), .inl (hy.dp (x := .lst xs) (by simpa [toPD, PyData.canLay0] using h.2)), h.1, h.2, ?_⟩
      rw [pAny_pd]
      exact o _ H (.bl _) (Same.refl H)
    · cases e
  · cases e
/-! ### is None -/
def isNon : PV → Bool
  | .non => true
  | _ => false
def sIs (neg : Bool) : PV → PV → Option PV := fun x y => match y with
  | .non => some (.bl (if neg then !isNon x else isNon x))
  | _ => none
theorem isNon_dec {K : PySem.W.Frag} {H : Hp} {v : V} {x : PV} (h : RT K H v x) : decide (v = .non) = isNon x := by
  cases x with
  | non => rw [h.non]; rfl
  | bl b => rw [h.bl]; rfl
  | int i => rw [h.int]; rfl
  | str i => rw [h.str]; rfl
  | tup xs => obtain ⟨a, vs, rfl, _⟩ := h.tup; rfl
  | lst xs => obtain ⟨a, vs, rfl, _⟩ := h.lst; rfl
  | dk xs => obtain ⟨a, vs, rfl, _⟩ := h.dk; rfl
  | dt xs => obtain ⟨a, vs, rfl, _⟩ := h.dt; rfl
  | scr xs => obtain ⟨a, rfl, _⟩ := h.scr; rfl
theorem s_is : Sem2 X Out (fun x y H Q => y = .non ∧ Q (.bl (decide (x = .non))) H) (sIs false) := by
  intro H x y p q z Q hx hy e o
  unfold sIs at e
  split at e
  · cases e
    refine ⟨hy.non, ?_⟩
    rw [isNon_dec hx]
    exact o _ H (.bl _) (Same.refl H)
  · cases e
theorem s_isnot : Sem2 X Out (fun x y H Q => y = .non ∧ Q (.bl (!decide (x = .non))) H) (sIs true) := by
  intro H x y p q z Q hx hy e o
  unfold sIs at e
  split at e
  · cases e
    refine ⟨hy.non, ?_⟩
    rw [isNon_dec hx]
    exact o _ H (.bl _) (Same.refl H)
  · cases e

/-! ### numbers -/
def sInt (C : Int → Int → Bool) (g : Int → Int → Int) : PV → PV → Option PV := fun x y => match x, y with
  | .int i, .int j => if C i j = true then some (.int (g i j)) else none
  | _, _ => none
theorem s_int {C : Int → Int → Prop} {D : Int → Int → Bool} {g : Int → Int → Int} (hC : ∀ i j, D i j = true → C i j) : Sem2 X Out (rI C fun i j => .int (g i j)) (sInt D g) := by
  intro H x y p q z Q hx hy e o
  unfold sInt at e
  split at e
  · split at e
    · rename_i i j h
      cases e
      exact ⟨i, j, hx.int, hy.int, hC i j h, o _ H (.int _) (Same.refl H)⟩
    · cases e
  · cases e
def yes2 : Int → Int → Bool := fun _ _ => true
theorem s_int0 {g : Int → Int → Int} : Sem2 X Out (rI0 fun i j => .int (g i j)) (sInt yes2 g) := by
  intro H x y p q z Q hx hy e o
  unfold sInt at e
  split at e
  · rename_i i j
    rw [if_pos (show yes2 i j = true from rfl)] at e
    cases e
    exact ⟨i, j, hx.int, hy.int, o _ H (.int _) (Same.refl H)⟩
  · cases e
def dMod (i j : Int) : Bool := decide (0 < j)
def sSub := sInt yes2 fun i j => i - j
def sMod := sInt dMod fun i j => i % j
def dDiv (i j : Int) : Bool := decide (0 < j ∧ j.natAbs.log2 < 9000)
def sDiv := sInt dDiv fun i j => i / j
def dMul (i j : Int) : Bool := decide ((-(2 ^ 64) < i ∧ i < 2 ^ 64) ∨ (-(2 ^ 64) < j ∧ j < 2 ^ 64) ∨ i.natAbs.log2 + j.natAbs.log2 < 1000000)
theorem op_mulA : OpR X (binaryOp .Mult) (rI (fun i j => dMul i j = true) fun i j => .int (i * j)) := opI fun i j t u s Q E hc q => by
  unfold dMul at hc
  have hc := of_decide_eq_true hc
  rcases hc with h | h | h
  · exact PyProof.Rows.mul_int q (CMul.ok (.inl h))
  · exact PyProof.Rows.mul_int q (CMul.ok (.inr h))
  · exact PyProof.Rows.mul_int q (CMulW.ok h)
def sMulI := sInt dMul fun i j => i * j
def dPow (i j : Int) : Bool := decide (0 ≤ j ∧ j ≤ 1000000 ∧ i.natAbs < 2 ^ 64)
def sPow := sInt dPow fun i j => i ^ j.toNat
def sShl := sInt dPow fun i j => i * 2 ^ j.toNat
def dShr (i j : Int) : Bool := decide (0 ≤ j)
def sShr := sInt dShr fun i j => i / 2 ^ j.toNat
def sBAnd := sInt yes2 Builtin.bitAnd
def sBOr := sInt yes2 Builtin.bitOr
def sBXor := sInt yes2 Builtin.bitXor
theorem s_sub : Sem2 X Out (rI0 fun i j => .int (i - j)) sSub := s_int0
theorem s_mod : Sem2 X Out (rI (fun _ j => 0 < j) fun i j => .int (i % j)) sMod := s_int fun i j h => of_decide_eq_true h
theorem s_div : Sem2 X Out (rI CDivW fun i j => .int (i / j)) sDiv := s_int fun i j h => (of_decide_eq_true h : 0 < j ∧ j.natAbs.log2 < 9000)
theorem s_pow : Sem2 X Out (rI CPow fun i j => .int (i ^ j.toNat)) sPow := s_int fun i j h => (of_decide_eq_true h : 0 ≤ j ∧ j ≤ 1000000 ∧ i.natAbs < 2 ^ 64)
theorem s_shl : Sem2 X Out (rI CPow fun i j => .int (i * 2 ^ j.toNat)) sShl := s_int fun i j h => (of_decide_eq_true h : 0 ≤ j ∧ j ≤ 1000000 ∧ i.natAbs < 2 ^ 64)
theorem s_shr : Sem2 X Out (rI (fun _ j => 0 ≤ j) fun i j => .int (i / 2 ^ j.toNat)) sShr := s_int fun i j h => of_decide_eq_true h
theorem s_band : Sem2 X Out (rI0 fun i j => .int (Builtin.bitAnd i j)) sBAnd := s_int0
theorem s_bor : Sem2 X Out (rI0 fun i j => .int (Builtin.bitOr i j)) sBOr := s_int0
theorem s_bxor : Sem2 X Out (rI0 fun i j => .int (Builtin.bitXor i j)) sBXor := s_int0
def sNeg : PV → Option PV
  | .int i => some (.int (-i))
  | _ => none
theorem s_neg : Sem1 X Out (rU fun i => .int (-i)) sNeg := by
  intro H x p z Q hx e o
  cases p <;> first | (cases e; done) | skip
  cases e
  exact ⟨_, hx.int, o _ H (.int _) (Same.refl H)⟩

/-! ### + and * -/
def sAdd : PV → PV → Option PV
  | .int i, .int j => some (.int (i + j))
  | .str x, .str y => if x.length + y.length ≤ 16777216 then some (.str (x ++ y)) else none
  | .tup xs, .tup ys => if xs.length + ys.length ≤ 16777216 then some (.tup (xs ++ ys)) else none
  | _, _ => none
abbrev rAddA (X : Cx) : R2 := fun x y H Q => (rI0 fun i j => .int (i + j)) x y H Q ∨ (rCatA X.K x y H Q ∨ (∃ i j, x = .str i ∧ y = .str j ∧ i.length + j.length ≤ sizeLine ∧ Q (.str (i ++ j)) H))
theorem op_addA : OpR X (binaryOp .Add) (rAddA X) := op_add.or (op_catA.or op_add_str)
theorem s_add : Sem2 X Out (rAddA X) sAdd := by
  intro H x y p q z Q hx hy e o
  unfold sAdd at e
  split at e
  · cases e
    exact .inl ⟨_, _, hx.int, hy.int, o _ H (.int _) (Same.refl H)⟩
  · split at e
    · rename_i h
      cases e
      exact .inr (.inr ⟨_, _, hx.str, hy.str, by rw [sizeLine_eq]; exact h, o _ H (.str _) (Same.refl H)⟩)
    · cases e
  · split at e
    · rename_i xs ys h
      cases e
      obtain ⟨a, vs, rfl, h1, r1⟩ := hx.tup
      obtain ⟨b, ws, rfl, h2, r2⟩ := hy.tup
      refine .inr (.inl ⟨a, b, vs, ws, rfl, rfl, SqT.of h1, SqT.of h2, by rw [sizeLine_eq, r1.length, r2.length]; exact h, fun e => ?_, fun _ e => ?_, fun _ _ t ht => ?_⟩)
      · subst e
        cases r1
        exact o _ H (.tup h2 r2) (Same.refl H)
      · subst e
        cases r2
        rw [List.append_nil] at o
        exact o _ H (.tup h1 r1) (Same.refl H)
      · have sm := same_upd (u := .tup (vs ++ ws)) ht
        exact o _ _ (.tup upd_same ((r1.append r2).ext (Ext.of_same sm))) sm
    · cases e
  · cases e
/-- two lists: a new one -/
def sAddL : PV → PV → Option PV
  | .lst xs, .lst ys => if xs.length + ys.length ≤ 16777216 then some (.lst (xs ++ ys)) else none
  | _, _ => none
def rCatL (K : PySem.W.Frag) : R2 := fun x y H Q => ∃ l b xs zs, x = .ref l ∧ y = .ref b ∧ SqL K H l xs ∧ SqL K H b zs ∧ xs.length + zs.length ≤ sizeLine ∧ ∀ p, H p = none → Q (.ref p) (upd H p (.lst (xs ++ zs)))
theorem op_catL : OpR X (binaryOp .Add) (rCatL X.K) := by
  intro pins s σ H x y v u Q I rx ry h
  obtain ⟨l, b, xs, zs, rfl, rfl, hH, hB, hz, q⟩ := h
  cases rx
  cases ry
  obtain ⟨its, r, ⟨⟨cls, dd, data, sl⟩, n, ho, hc, _, hd⟩, hl⟩ := I.list hH
  obtain ⟨its2, r2, ⟨⟨cls2, dd2, data2, sl2⟩, n2, ho2, hc2, _, hd2⟩, hl2⟩ := I.list hB
  simp only at hc hd hc2 hd2
  subst hc hd hc2 hd2
  have e1 := r.length
  have e2 := r2.length
  refine concat_meets ⟨_, ho, rfl⟩ ⟨_, ho2, rfl⟩ noFill_list_add seq_list_add PySem.F.slot_list_add PySem.F.entry_list_add (PySem.F.args_list_add_2 _ _)
    (PyProof.Rows.list_addW l b its.toArray its2.toArray n n2 dd dd2 sl sl2 (by rw [List.size_toArray, List.size_toArray]; omega)) ⟨ho, ho2, ?_⟩
  have ea : its.toArray ++ its2.toArray = (its ++ its2).toArray := by simp
  rw [ea]
  exact ⟨.ref _, _, I.lnew (t' := s.toks) (r.append r2) (by rw [List.length_append]; omega), rfl, q _ I.fresh⟩
theorem s_addL : Sem2 X OutL (rCatL X.K) sAddL := by
  intro H x y p q z Q hx hy e o
  unfold sAddL at e
  split at e
  · split at e
    · rename_i xs ys h
      cases e
      obtain ⟨a, vs, rfl, h1, r1⟩ := hx.lst
      obtain ⟨b, ws, rfl, h2, r2⟩ := hy.lst
      refine ⟨a, b, vs, ws, rfl, rfl, h1, h2, by rw [sizeLine_eq, r1.length, r2.length]; exact h, fun t ht => ?_⟩
      have sm := same_upd (u := .lst (vs ++ ws)) ht
      exact o t _ _ ht upd_same ((r1.append r2).ext (Ext.of_same sm)) sm
    · cases e
  · cases e
/-- a tuple times an int; two ints -/
def sMul : PV → PV → Option PV
  | .int i, .int j => if dMul i j = true then some (.int (i * j)) else none
  | .tup xs, .int k => if xs ≠ [] ∧ 2 ≤ k ∧ k ≤ 1000 ∧ xs.length ≤ 1000 then some (.tup (List.replicate k.toNat xs).flatten) else none
  | _, _ => none
theorem s_mul : Sem2 X Out (fun x y H Q => (rI (fun i j => dMul i j = true) fun i j => .int (i * j)) x y H Q ∨ rRepT X.K x y H Q) sMul := by
  intro H x y p q z Q hx hy e o
  unfold sMul at e
  split at e
  · split at e
    · rename_i i j h
      cases e
      exact .inl ⟨i, j, hx.int, hy.int, h, o _ H (.int _) (Same.refl H)⟩
    · cases e
  · split at e
    · rename_i xs k h
      cases e
      obtain ⟨a, vs, rfl, h1, r1⟩ := hx.tup
      refine .inr ⟨a, k, vs, rfl, hy.int, SqT.of h1, fun e => h.1 (by subst e; cases r1; rfl), h.2.1, h.2.2.1, by rw [r1.length]; exact h.2.2.2, fun t ht => ?_⟩
      have sm := same_upd (u := .tup (List.replicate k.toNat vs).flatten) ht
      exact o _ _ (.tup upd_same ((r1.replicate k.toNat).ext (Ext.of_same sm))) sm
    · cases e
  · cases e
theorem op_mulB : OpR X (binaryOp .Mult) (fun x y H Q => (rI (fun i j => dMul i j = true) fun i j => .int (i * j)) x y H Q ∨ rRepT X.K x y H Q) := op_mulA.or op_repT

/-! ### an item -/
def sIx : PV → PV → Option PV
  | .tup xs, .int i => atI xs i
  | .lst xs, .int i => atI xs i
  | .scr ns, .int i => (atI ns i).map .int
  | .str z, .int i => if z.length ≤ 16777216 then (atI z.cps.toList i).map fun c => .str ⟨#[c]⟩ else none
  | _, _ => none
theorem repA_at {K : PySem.W.Frag} {H : Hp} {vs : List V} {xs : List PV} {i : Int} {x : PV} (r : RepA K H vs xs) (h : atI xs i = some x) : ∃ v, atI vs i = some v ∧ Rep K H v x := by
  unfold atI at h ⊢
  rw [r.length]
  cases e : ixN xs.length i with
  | none => rw [e] at h; cases h
  | some j =>
    rw [e] at h
    obtain ⟨v, h1, h2⟩ := r.get' (show xs[j]? = some x from h)
    exact ⟨v, h1, h2⟩
theorem s_ix : Sem2 X Out (rIx X.K) sIx := by
  intro H x y p q z Q hx hy e o
  unfold sIx at e
  split at e
  · rename_i xs i
    obtain ⟨a, vs, rfl, h1, r1⟩ := hx.tup
    obtain ⟨v, h2, h3⟩ := repA_at r1 e
    exact .inr (.inl ⟨a, vs, i, v, rfl, hy.int, SqT.of h1, h2, o _ H h3 (Same.refl H)⟩)
  · rename_i xs i
    obtain ⟨a, vs, rfl, h1, r1⟩ := hx.lst
    obtain ⟨v, h2, h3⟩ := repA_at r1 e
    exact .inl ⟨a, vs, i, v, rfl, hy.int, h1, h2, o _ H h3 (Same.refl H)⟩
  · rename_i ns i
    obtain ⟨a, rfl, h1⟩ := hx.scr
    obtain ⟨n, h2, h3⟩ := Option.map_eq_some_iff.mp e
    cases h3
    refine .inl ⟨a, _, i, .int n, rfl, hy.int, h1.sq, ?_, o _ H (.int _) (Same.refl H)⟩
    unfold atI at h2 ⊢
    rw [List.length_map]
    obtain ⟨j, h4, h5⟩ := Option.bind_eq_some_iff.mp h2
    rw [h4]
    show (ns.map V.int)[j]? = _
    rw [List.getElem?_map, h5]
    rfl
  · split at e
    · rename_i t i h
      obtain ⟨c, h2, h3⟩ := Option.map_eq_some_iff.mp e
      cases h3
      exact .inr (.inr ⟨t, i, c, hx.str, hy.int, by rw [sizeLine_eq]; exact h, h2, o _ H (.str _) (Same.refl H)⟩)
    · cases e
  · cases e

/-! ### order -/
def ordI : CmpOp → Int → Int → Bool
  | .Lt, i, j => decide (i < j)
  | .LtE, i, j => decide (i ≤ j)
  | .Gt, i, j => decide (j < i)
  | .GtE, i, j => decide (j ≤ i)
  | _, _, _ => false
def ordN : CmpOp → Nat → Nat → Bool
  | .Lt, i, j => decide (i < j)
  | .LtE, i, j => decide (i ≤ j)
  | .Gt, i, j => decide (i > j)
  | .GtE, i, j => decide (i ≥ j)
  | _, _, _ => false
def lexP (f : PV → PV → Option Bool) (z : Bool) : List PV → List PV → Option Bool
  | x :: xs, y :: ys => match lexP f z xs ys with
    | some b => if pEqv x y = true then some b else f x y
    | none => none
  | _, _ => some z
def ordP (op : CmpOp) : Nat → PV → PV → Option Bool
  | _, .int i, .int j => some (ordI op i j)
  | n + 1, .tup xs, .tup ys => lexP (ordP op n) (ordN op xs.length ys.length) xs ys
  | _, _, _ => none
def sOrd (op : CmpOp) : PV → PV → Option PV := fun x y => if pOk x = true ∧ pOk y = true then (ordP op 8 x y).map .bl else none
def IsOrd (op : CmpOp) : Prop := op = .Lt ∨ op = .LtE ∨ op = .Gt ∨ op = .GtE
theorem lexP_at {f : PV → PV → Option Bool} {z b : Bool} {e r : Nat → Bool} : ∀ {xs ys : List PV} (i : Nat), lexP f z xs ys = some b → (∀ j x y, xs[j]? = some x → ys[j]? = some y → e (i + j) = pEqv x y) →
    (∀ j x y c, xs[j]? = some x → ys[j]? = some y → f x y = some c → r (i + j) = c) → Ob.lexAt e r z i (min xs.length ys.length) = b
  | [], ys, i, h, _, _ => by rw [List.length_nil, Nat.zero_min]; exact Option.some.inj h
  | _ :: _, [], i, h, _, _ => by rw [List.length_nil, Nat.min_zero]; exact Option.some.inj h
  | x :: xs, y :: ys, i, h, h1, h2 => by
    have h0 : (match lexP f z xs ys with
      | some b => if pEqv x y = true then some b else f x y
      | none => none) = some b := h
    cases q : lexP f z xs ys with
    | none => rw [q] at h0; cases h0
    | some b' =>
      rw [q] at h0
      have ih := lexP_at (e := e) (r := r) (i + 1) q (fun j a c ha hc => by have := h1 (j + 1) a c (by simpa using ha) (by simpa using hc); rw [← this]; congr 1; omega)
        (fun j a c d ha hc hd => by have := h2 (j + 1) a c d (by simpa using ha) (by simpa using hc) hd; rw [← this]; congr 1; omega)
      have hm : min (x :: xs).length (y :: ys).length = min xs.length ys.length + 1 := by simp only [List.length_cons]; omega
      rw [hm, Ob.lexAt_succ]
      have e0 : e i = pEqv x y := h1 0 x y rfl rfl
      rw [e0]
      by_cases hq : pEqv x y = true
      · rw [if_pos hq]
        have h0' : (if pEqv x y = true then some b' else f x y) = some b := h0
        rw [if_pos hq] at h0'
        rw [ih]
        exact Option.some.inj h0'
      · rw [if_neg hq]
        have h0' : (if pEqv x y = true then some b' else f x y) = some b := h0
        rw [if_neg hq] at h0'
        exact h2 0 x y b rfl rfl h0'
theorem lexP_some {f : PV → PV → Option Bool} {z b : Bool} : ∀ {xs ys : List PV}, lexP f z xs ys = some b → ∀ (j : Nat) x y, xs[j]? = some x → ys[j]? = some y → pEqv x y = false → ∃ c, f x y = some c
  | [], ys, h, j, x, y, hx, _, _ => by simp at hx
  | _ :: _, [], h, j, x, y, _, hy, _ => by simp at hy
  | x :: xs, y :: ys, h, j, a, c, ha, hc, hn => by
    have h0 : (match lexP f z xs ys with
      | some b => if pEqv x y = true then some b else f x y
      | none => none) = some b := h
    cases q : lexP f z xs ys with
    | none => rw [q] at h0; cases h0
    | some b' =>
      rw [q] at h0
      cases j with
      | zero =>
        simp at ha hc
        subst ha hc
        have h0' : (if pEqv x y = true then some b' else f x y) = some b := h0
        rw [if_neg (by rw [hn]; exact Bool.false_ne_true)] at h0'
        exact ⟨b, h0'⟩
      | succ j => exact lexP_some q j a c (by simpa using ha) (by simpa using hc) hn
theorem lay_items {xs : List PV} (h : (toPD (.tup xs)).canLay0 = true) : ∀ x ∈ xs, (toPD x).canLay0 = true := by
  have h' : PyData.canLayAll0 (toPDs xs) = true := by simpa [toPD, PyData.canLay0] using h
  clear h
  induction xs with
  | nil => intro x hx; cases hx
  | cons y ys ih =>
    have hc : (toPD y).canLay0 = true ∧ PyData.canLayAll0 (toPDs ys) = true := by simpa [toPDs, PyData.canLayAll0] using h'
    intro x hx
    rcases List.mem_cons.mp hx with rfl | hx
    · exact hc.1
    · exact ih hc.2 x hx
theorem depth_items {xs : List PV} {n : Nat} (h : (toPD (.tup xs)).depth ≤ n + 1) : ∀ x ∈ xs, (toPD x).depth ≤ n := by
  have h' : PyData.depthAll (toPDs xs) ≤ n := by simpa [toPD, PyData.depth] using h
  clear h
  induction xs with
  | nil => intro x hx; cases hx
  | cons y ys ih =>
    have hc : (toPD y).depth ≤ n ∧ PyData.depthAll (toPDs ys) ≤ n := by simpa [toPDs, PyData.depthAll, Nat.max_le] using h'
    intro x hx
    rcases List.mem_cons.mp hx with rfl | hx
    · exact hc.1
    · exact ih hc.2 x hx
theorem eqAt_rep {pins : List (Addr × Obj)} {σ : St} {H : Hp} {s : Shared} (I : Inv X pins σ H s) {A : Around} {v w : V} {u u' : Value} {x y : PV} (hx : Rep X.K H v x) (hy : Rep X.K H w y) (ru : RelV v u) (rw' : RelV w u')
    (cx : (toPD x).canLay0 = true) (cy : (toPD y).canLay0 = true) (hu : A.units + (toPD x).depth < cLine) : SeqAt.EqAt A s u u' (pEqv x y) := by
  obtain ⟨as, r1⟩ := Dp.reads I _ v u (hx.dp cx) ru
  obtain ⟨bs, r2⟩ := Dp.reads I _ w u' (hy.dp cy) rw'
  refine SeqAt.eqAt_reads _ _ A s u u' as bs r1 r2 cx cy ?_
  have := Nat.min_le_left (toPD x).depth (toPD y).depth
  omega
theorem rc_ord {op : CmpOp} (ho : IsOrd op) {pins : List (Addr × Obj)} {σ : St} {H : Hp} {s : Shared} (I : Inv X pins σ H s) : ∀ (n : Nat) (A : Around) (x y : PV) (v w : V) (u u' : Value) (b : Bool), Rep X.K H v x → Rep X.K H w y → RelV v u → RelV w u' →
    (toPD x).canLay0 = true → (toPD y).canLay0 = true → (toPD x).depth ≤ 64 → A.units + n + 66 < cLine → ordP op n x y = some b → Ob.RcOp op A s u u' b := by
  intro n
  induction n with
  | zero =>
    intro A x y v w u u' b hx hy ru rw' cx cy dx hu e
    cases x <;> cases y <;> first | (cases e; done) | skip
    cases e
    cases hx
    cases hy
    obtain ⟨t, rfl⟩ := ru
    obtain ⟨t', rfl⟩ := rw'
    rcases ho with rfl | rfl | rfl | rfl
    · exact Ob.RcOp.lt_int _ _ _ _
    · exact Ob.RcOp.le_int _ _ _ _
    · exact Ob.RcOp.gt_int _ _ _ _
    · exact Ob.RcOp.ge_int _ _ _ _
  | succ n ih =>
    intro A x y v w u u' b hx hy ru rw' cx cy dx hu e
    cases x <;> cases y <;> first | (cases e; done) | skip
    · cases e
      cases hx
      cases hy
      obtain ⟨t, rfl⟩ := ru
      obtain ⟨t', rfl⟩ := rw'
      rcases ho with rfl | rfl | rfl | rfl
      · exact Ob.RcOp.lt_int _ _ _ _
      · exact Ob.RcOp.le_int _ _ _ _
      · exact Ob.RcOp.gt_int _ _ _ _
      · exact Ob.RcOp.ge_int _ _ _ _
    · rename_i xs ys
      have e : lexP (ordP op n) (ordN op xs.length ys.length) xs ys = some b := e
      cases hx with
      | tup h1 r1 =>
        cases hy with
        | tup h2 r2 =>
          cases (show u = Value.ref _ from ru)
          cases (show u' = Value.ref _ from rw')
          obtain ⟨its, q1, p1, _⟩ := I.tuple (SqT.of h1)
          obtain ⟨its2, q2, p2, _⟩ := I.tuple (SqT.of h2)
          have l1 : its.toArray.size = xs.length := by rw [List.size_toArray, ← q1.length, r1.length]
          have l2 : its2.toArray.size = ys.length := by rw [List.size_toArray, ← q2.length, r2.length]
          have at1 : ∀ (j : Nat) (h : j < its.toArray.size), ∃ v x, xs[j]? = some x ∧ Rep X.K H v x ∧ RelV v its.toArray[j] := fun j h => by
            have hj : j < xs.length := by omega
            obtain ⟨v, hv, rv⟩ := r1.get' (List.getElem?_eq_getElem hj)
            obtain ⟨w, hw, rw2⟩ := q1.get hv
            refine ⟨v, xs[j], List.getElem?_eq_getElem hj, rv, ?_⟩
            have : its.toArray[j]? = some w := by simpa using hw
            rw [Array.getElem?_eq_getElem h] at this
            cases this
            exact rw2
          have at2 : ∀ (j : Nat) (h : j < its2.toArray.size), ∃ v x, ys[j]? = some x ∧ Rep X.K H v x ∧ RelV v its2.toArray[j] := fun j h => by
            have hj : j < ys.length := by omega
            obtain ⟨v, hv, rv⟩ := r2.get' (List.getElem?_eq_getElem hj)
            obtain ⟨w, hw, rw2⟩ := q2.get hv
            refine ⟨v, ys[j], List.getElem?_eq_getElem hj, rv, ?_⟩
            have : its2.toArray[j]? = some w := by simpa using hw
            rw [Array.getElem?_eq_getElem h] at this
            cases this
            exact rw2
          have k1 := lay_items cx
          have k2 := lay_items cy
          have k3 := depth_items (n := 63) (by omega : (toPD (.tup xs)).depth ≤ 63 + 1)
          have he : ∀ j (g1 : j < its.toArray.size) (g2 : j < its2.toArray.size), SeqAt.EqAt A.in1 s its.toArray[j] its2.toArray[j] (pEqv (xs.getD j .non) (ys.getD j .non)) := fun j g1 g2 => by
            obtain ⟨v, x, ex, rx, rv⟩ := at1 j g1
            obtain ⟨v', x', ex', rx', rv'⟩ := at2 j g2
            have m1 := List.mem_of_getElem? ex
            have m2 := List.mem_of_getElem? ex'
            have z1 : xs.getD j .non = x := by rw [List.getD_eq_getElem?_getD, ex]; rfl
            have z2 : ys.getD j .non = x' := by rw [List.getD_eq_getElem?_getD, ex']; rfl
            rw [z1, z2]
            have := k3 x m1
            exact eqAt_rep I rx rx' rv rv' (k1 x m1) (k2 x' m2) (by show A.units + 1 + _ < cLine; omega)
          have hr : ∀ j (g1 : j < its.toArray.size) (g2 : j < its2.toArray.size), pEqv (xs.getD j .non) (ys.getD j .non) = false → Ob.RcOp op A.in1 s its.toArray[j] its2.toArray[j] ((ordP op n (xs.getD j .non) (ys.getD j .non)).getD false) := fun j g1 g2 hne => by
            obtain ⟨v, x, ex, rx, rv⟩ := at1 j g1
            obtain ⟨v', x', ex', rx', rv'⟩ := at2 j g2
            have m1 := List.mem_of_getElem? ex
            have m2 := List.mem_of_getElem? ex'
            have z1 : xs.getD j .non = x := by rw [List.getD_eq_getElem?_getD, ex]; rfl
            have z2 : ys.getD j .non = x' := by rw [List.getD_eq_getElem?_getD, ex']; rfl
            rw [z1, z2] at hne ⊢
            obtain ⟨c, hc⟩ := lexP_some e j x x' ex ex' hne
            rw [hc]
            have := k3 x m1
            exact ih A.in1 x x' v v' _ _ c rx rx' rv rv' (k1 x m1) (k2 x' m2) (by omega) (by show A.units + 1 + n + 66 < cLine; omega) hc
          have fin := lexP_at (e := fun j => pEqv (xs.getD j .non) (ys.getD j .non)) (r := fun j => (ordP op n (xs.getD j .non) (ys.getD j .non)).getD false) 0 e
            (fun j x y h3 h4 => by rw [Nat.zero_add, List.getD_eq_getElem?_getD, List.getD_eq_getElem?_getD, h3, h4]; rfl)
            (fun j x y c h3 h4 h5 => by
              show (ordP op n (xs.getD (0 + j) .non) (ys.getD (0 + j) .non)).getD false = c
              rw [Nat.zero_add, List.getD_eq_getElem?_getD, List.getD_eq_getElem?_getD, h3, h4]
              show (ordP op n x y).getD false = c
              rw [h5]; rfl)
          rw [← l1, ← l2] at fin
          have hun : A.units < cLine := by omega
          rcases ho with rfl | rfl | rfl | rfl
          · rw [← fin]
            exact Ob.RcOp.tuples_lt p1 p2 hun he hr
          · rw [← fin]
            exact Ob.RcOp.tuples_le p1 p2 hun he hr
          · rw [← fin]
            exact Ob.RcOp.tuples_gt p1 p2 hun he hr
          · rw [← fin]
            exact Ob.RcOp.tuples_ge p1 p2 hun he hr
def rOrd (K : PySem.W.Frag) (op : CmpOp) : R2 := fun x y H Q => ∃ p q b, Rep K H x p ∧ Rep K H y q ∧ pOk p = true ∧ pOk q = true ∧ ordP op 8 p q = some b ∧ Q (.bl b) H
theorem op_ord {op : CmpOp} (ho : IsOrd op) (hu : X.A.units + 80 < cLine) : OpR X (compareOp op) (rOrd X.K op) := by
  intro pins s σ H x y v u Q I rx ry h
  obtain ⟨p, q, b, hp, hq, op', oq, e, hQ⟩ := h
  have R := rc_ord ho I 8 X.A p q x y v u b hp hq rx ry (pOk_lay op') (pOk_lay oq) (pOk_depth op') (by omega) e X.prog X.w X.xe (EP X pins σ Q) ⟨.bl b, H, I, rfl, hQ⟩
  rcases ho with rfl | rfl | rfl | rfl <;> exact R
theorem RT.ofScalar {K : PySem.W.Frag} {H : Hp} {v : V} {x : PV} (h : RT K H v x) (n : ∀ xs, x ≠ .lst xs) (n2 : ∀ xs, x ≠ .dk xs) (n3 : ∀ xs, x ≠ .dt xs) : Rep K H v x := by
  rcases h with h | ⟨a, u, rfl, e, h⟩
  · exact h
  · rcases ro_none h with ⟨xs, z⟩ | ⟨xs, z⟩ | ⟨xs, z⟩
    · exact absurd z (n xs)
    · exact absurd z (n2 xs)
    · exact absurd z (n3 xs)
theorem ordP_kind {op : CmpOp} {n : Nat} {x y : PV} {b : Bool} (e : ordP op n x y = some b) : (∃ i j, x = .int i ∧ y = .int j) ∨ ∃ xs ys, x = .tup xs ∧ y = .tup ys := by
  cases n <;> cases x <;> cases y <;> first | (cases e; done) | exact .inl ⟨_, _, rfl, rfl⟩ | exact .inr ⟨_, _, rfl, rfl⟩
theorem s_ord {op : CmpOp} : Sem2 X Out (rOrd X.K op) (sOrd op) := by
  intro H x y p q z Q hx hy e o
  unfold sOrd at e
  split at e
  · rename_i h
    obtain ⟨b, hb, rfl⟩ := Option.map_eq_some_iff.mp e
    have hp : Rep X.K H x p ∧ Rep X.K H y q := by
      rcases ordP_kind hb with ⟨i, j, rfl, rfl⟩ | ⟨xs, ys, rfl, rfl⟩
      · exact ⟨hx.ofScalar (fun _ => nofun) (fun _ => nofun) (fun _ => nofun), hy.ofScalar (fun _ => nofun) (fun _ => nofun) (fun _ => nofun)⟩
      · exact ⟨hx.ofScalar (fun _ => nofun) (fun _ => nofun) (fun _ => nofun), hy.ofScalar (fun _ => nofun) (fun _ => nofun) (fun _ => nofun)⟩
    exact ⟨p, q, b, hp.1, hp.2, h.1, h.2, hb, o _ H (.bl b) (Same.refl H)⟩
  · cases e
end
end VL

set_option Elab.async false
set_option linter.all false
set_option autoImplicit false
set_option maxRecDepth 100000
set_option maxHeartbeats 4000000
/-! VL3: arguments, built-ins, displays, slices. -/
namespace VL
open PySem L2

section
variable {X : Cx} {W : WX} {K : PySem.W.Frag} {mg : Str → Option Value} {S : Sk} {σ : St} {H H' : Hp}
/-! ### arguments -/
def OVs (K : PySem.W.Frag) (σ : St) (H : Hp) : List OV → List V → Prop
  | [], [] => True
  | o :: os, v :: vs => OVRel K σ H o v ∧ OVs K σ H os vs
  | _, _ => False
theorem OVs.ext (e : Ext H H') : ∀ {os : List OV} {vs : List V}, OVs K σ H os vs → OVs K σ H' os vs
  | [], [], _ => trivial
  | o :: os, v :: vs, h => ⟨h.1.ext e, OVs.ext e h.2⟩
  | [], _ :: _, h => h.elim
  | _ :: _, [], h => h.elim
def PostA (K : PySem.W.Frag) (mg : Str → Option Value) (W : WX) (S : Sk) (σ : St) (H : Hp) (r : R (List OV)) (Q : List V → Hp → Prop) : Prop := match r with
  | .stuck => False
  | .ok os S' => ∀ vs H', OVs K σ H' os vs → RelS K S' σ H' → Frm S σ H S' σ H' → Q vs H'
  | .exc e S' => ∀ cls d H', ExnRep K mg H' cls d e → RelS K S' σ H' → Frm S σ H S' σ H' → W cls d σ H'
def LiftA (K : PySem.W.Frag) (mg : Str → Option Value) (W : WX) (f : Sk → R (List OV)) : TA := fun σ H Q => ∃ S, RelS K S σ H ∧ PostA K mg W S σ H (f S) Q
structure EA (X : Cx) (W : WX) (es : List Expr) (f : Sk → R (List OV)) : Prop where
  pa : PA X es (LiftA X.K X.mg W f)
theorem PA.imp {es : List Expr} {t t' : TA} (h : PA X es t) (i : ∀ σ H Q, t' σ H Q → t σ H Q) : PA X es t' := ⟨fun pos pins s σ H Q I q => h.run pos pins s σ H Q I (i σ H Q q)⟩
def aNil : Sk → R (List OV) := fun S => .ok [] S
def aCons (a : Sk → R OV) (r : Sk → R (List OV)) : Sk → R (List OV) := fun S => (a S).bind fun o S1 => (r S1).bind fun os S2 => .ok (o :: os) S2
theorem ea_nil : EA X W [] aNil := ⟨PA.imp pa_nil fun σ H Q ⟨S, R0, q⟩ => q [] H trivial R0 .refl⟩
theorem ea_cons {e : Expr} {es : List Expr} {a : Sk → R OV} {r : Sk → R (List OV)} (ha : EO X W e a) (hr : EA X W es r) (hs : starEach (e :: es) X.env = (false, eval e X.env) :: starEach es X.env) : EA X W (e :: es) (aCons a r) := by
  refine ⟨PA.imp (pa_cons ha.pe hr.pa hs) fun σ H Q ⟨S, R0, q⟩ => ⟨S, R0, ?_⟩⟩
  unfold aCons at q
  cases h1 : a S with
  | stuck => rw [h1] at q; exact q
  | exc x S1 => rw [h1] at q; exact q
  | ok o S1 =>
    rw [h1, R.bind_ok] at q
    intro v H1 ov R1 F1
    refine ⟨S1, R1, ?_⟩
    cases h2 : r S1 with
    | stuck => rw [h2] at q; exact q
    | exc x S2 => rw [h2] at q; exact fun c d H2 er R2 F2 => q c d H2 er R2 (F1.trans F2)
    | ok os S2 =>
      rw [h2, R.bind_ok] at q
      exact fun vs H2 ovs R2 F2 => q (v :: vs) H2 ⟨ov.ext (R1.ext F2), ovs⟩ R2 (F1.trans F2)
def lookAll (S : Sk) : List OV → Option (List PV)
  | [] => some []
  | o :: os => match look S o, lookAll S os with
    | some x, some xs => some (x :: xs)
    | _, _ => none
def RTs (K : PySem.W.Frag) (H : Hp) : List V → List PV → Prop
  | [], [] => True
  | v :: vs, x :: xs => RT K H v x ∧ RTs K H vs xs
  | _, _ => False
theorem lookAll_rt (R : RelS K S σ H) : ∀ {os : List OV} {vs : List V} {xs : List PV}, OVs K σ H os vs → lookAll S os = some xs → RTs K H vs xs
  | [], [], xs, _, e => by cases e; trivial
  | o :: os, v :: vs, xs, h, e => by
    unfold lookAll at e
    split at e
    · rename_i x ys h1 h2
      cases e
      exact ⟨look_rt R h.1 h1, lookAll_rt R h.2 h2⟩
    · cases e
  | [], _ :: _, _, h, _ => h.elim
  | _ :: _, [], _, h, _ => h.elim
def opA (sem : List PV → Option PV) (f : Sk → R (List OV)) : Sk → R PV := fun S => (f S).bind fun os S1 => match lookAll S1 os with
  | some ps => (match sem ps with
    | some z => .ok z S1
    | none => .stuck)
  | none => .stuck
def SemA (X : Cx) (out : PySem.W.Frag → Hp → PV → VK → Prop) (r : List V → Hp → VK → Prop) (sem : List PV → Option PV) : Prop := ∀ (H : Hp) (vs : List V) (ps : List PV) (z : PV) (Q : VK), RTs X.K H vs ps → sem ps = some z → out X.K H z Q → r vs H Q
theorem liftA {f : Sk → R (List OV)} {sem : List PV → Option PV} {r : List V → Hp → VK → Prop} (hs : SemA X Out r sem) {σ : St} {H : Hp} {Q : VK} (h : LiftE X.K X.mg W (opA sem f) σ H Q) : LiftA X.K X.mg W f σ H fun vs H1 => r vs H1 Q := by
  obtain ⟨S, R0, q⟩ := h
  refine ⟨S, R0, ?_⟩
  unfold opA at q
  cases ha : f S with
  | stuck => rw [ha] at q; exact q
  | exc x S1 => rw [ha] at q; exact q
  | ok x S1 =>
    rw [ha, R.bind_ok] at q
    intro v H1 ov R1 F1
    split at q
    · rename_i p hp
      split at q
      · rename_i z hz
        exact hs H1 v p z Q (lookAll_rt R1 ov hp) hz (post_out (r := .stuck) R1 F1 q)
      · exact (show False from q).elim
    · exact (show False from q).elim
theorem liftAL {f : Sk → R (List OV)} {sem : List PV → Option PV} {r : List V → Hp → VK → Prop} (hs : SemA X OutL r sem) {σ : St} {H : Hp} {Q : VK} (h : LiftL X.K X.mg W (opA sem f) σ H Q) : LiftA X.K X.mg W f σ H fun vs H1 => r vs H1 Q := by
  obtain ⟨S, R0, q⟩ := h
  refine ⟨S, R0, ?_⟩
  unfold opA at q
  cases ha : f S with
  | stuck => rw [ha] at q; exact q
  | exc x S1 => rw [ha] at q; exact q
  | ok x S1 =>
    rw [ha, R.bind_ok] at q
    intro v H1 ov R1 F1
    split at q
    · rename_i p hp
      split at q
      · rename_i z hz
        exact hs H1 v p z Q (lookAll_rt R1 ov hp) hz (post_outL (r := .stuck) R1 F1 q)
      · exact (show False from q).elim
    · exact (show False from q).elim
variable {x : Str} {p pos : Pos} {e : Expr} {es : List Expr} {idn T : String} {r : List V → Hp → VK → Prop} {sem : List PV → Option PV} {fa : Sk → R (List OV)}
theorem ev_callB (hc : CallR X (.builtin idn) r) (hs : SemA X Out r sem) (hg : Gl X x) (hm : X.mg x = none) (hv : bootBuiltins x = some (.builtin idn)) (ha : EA X W (e :: es) fa) (hn : x ≠ "__name__") (hdb : (x == ("__debug__" : Str)) = false)
    (he : starEach (e :: es) X.env = (false, eval e X.env) :: starEach es X.env) (hpl : (backTo pos (starEach es X.env)).any (·.1) = false) : EV X W (.Call (.Name x p) (e :: es) [] pos) (opA sem fa) :=
  ⟨PE.imp (pe_callB hc hg hm hv ha.pa hn hdb he hpl) fun _ _ _ h => liftA hs h⟩
theorem ev_callTy (hc : CallR X (.type T) r) (hs : SemA X Out r sem) (hg : Gl X x) (hm : X.mg x = none) (hv : bootBuiltins x = some (.type T)) (ha : EA X W (e :: es) fa) (hn : x ≠ "__name__") (hdb : (x == ("__debug__" : Str)) = false)
    (he : starEach (e :: es) X.env = (false, eval e X.env) :: starEach es X.env) (hpl : (backTo pos (starEach es X.env)).any (·.1) = false) : EV X W (.Call (.Name x p) (e :: es) [] pos) (opA sem fa) :=
  ⟨PE.imp (pe_callTy hc hg hm hv ha.pa hn hdb he hpl) fun _ _ _ h => liftA hs h⟩
theorem el_callB (hc : CallR X (.builtin idn) r) (hs : SemA X OutL r sem) (hg : Gl X x) (hm : X.mg x = none) (hv : bootBuiltins x = some (.builtin idn)) (ha : EA X W (e :: es) fa) (hn : x ≠ "__name__") (hdb : (x == ("__debug__" : Str)) = false)
    (he : starEach (e :: es) X.env = (false, eval e X.env) :: starEach es X.env) (hpl : (backTo pos (starEach es X.env)).any (·.1) = false) : EL X W (.Call (.Name x p) (e :: es) [] pos) (opA sem fa) :=
  ⟨PE.imp (pe_callB hc hg hm hv ha.pa hn hdb he hpl) fun _ _ _ h => liftAL hs h⟩
theorem el_callTy (hc : CallR X (.type T) r) (hs : SemA X OutL r sem) (hg : Gl X x) (hm : X.mg x = none) (hv : bootBuiltins x = some (.type T)) (ha : EA X W (e :: es) fa) (hn : x ≠ "__name__") (hdb : (x == ("__debug__" : Str)) = false)
    (he : starEach (e :: es) X.env = (false, eval e X.env) :: starEach es X.env) (hpl : (backTo pos (starEach es X.env)).any (·.1) = false) : EL X W (.Call (.Name x p) (e :: es) [] pos) (opA sem fa) :=
  ⟨PE.imp (pe_callTy hc hg hm hv ha.pa hn hdb he hpl) fun _ _ _ h => liftAL hs h⟩

/-! ### displays -/
def valsOf : List OV → Option (List PV)
  | [] => some []
  | .v x :: os => (valsOf os).map (x :: ·)
  | .s _ :: _ => none
theorem valsOf_rep : ∀ {os : List OV} {vs : List V} {xs : List PV}, OVs K σ H os vs → valsOf os = some xs → RepA K H vs xs
  | [], [], xs, _, e => by cases e; exact .nil
  | .v y :: os, v :: vs, xs, h, e => by
    obtain ⟨ys, h1, h2⟩ := Option.map_eq_some_iff.mp e
    cases h2
    exact .cons h.1 (valsOf_rep h.2 h1)
  | .s _ :: os, v :: vs, xs, h, e => by cases e
  | [], _ :: _, _, h, _ => h.elim
  | .v _ :: _, [], _, h, _ => h.elim
  | .s _ :: _, [], _, h, _ => h.elim
def dispF (mk : List PV → PV) (f : Sk → R (List OV)) : Sk → R PV := fun S => (f S).bind fun os S1 => match valsOf os with
  | some xs => if xs.length ≤ 16777216 then .ok (mk xs) S1 else .stuck
  | none => .stuck
theorem ev_tup {k : Nat} (ha : EA X W es fa) : EV X W (.Tuple es k pos) (dispF .tup fa) := by
  refine ⟨PE.imp (pe_tup ha.pa) fun σ H Q ⟨S, R0, q⟩ => ⟨S, R0, ?_⟩⟩
  unfold dispF at q
  cases hf : fa S with
  | stuck => rw [hf] at q; exact q
  | exc y S1 => rw [hf] at q; exact q
  | ok os S1 =>
    rw [hf, R.bind_ok] at q
    intro vs H1 ov R1 F1
    split at q
    · split at q
      · rename_i xs h1 h2
        have r := valsOf_rep ov h1
        refine ⟨by rw [sizeLine_eq, r.length]; exact h2, fun t ht => ?_⟩
        have sm := same_upd (u := .tup vs) ht
        exact post_out (r := .stuck) R1 F1 q _ _ (.tup upd_same (r.ext (Ext.of_same sm))) sm
      · exact (show False from q).elim
    · exact (show False from q).elim
theorem el_lst (ha : EA X W es fa) : EL X W (.List es pos) (dispF .lst fa) := by
  refine ⟨PE.imp (pe_lst ha.pa) fun σ H Q ⟨S, R0, q⟩ => ⟨S, R0, ?_⟩⟩
  unfold dispF at q
  cases hf : fa S with
  | stuck => rw [hf] at q; exact q
  | exc y S1 => rw [hf] at q; exact q
  | ok os S1 =>
    rw [hf, R.bind_ok] at q
    intro vs H1 ov R1 F1
    split at q
    · split at q
      · rename_i xs h1 h2
        have r := valsOf_rep ov h1
        refine ⟨by rw [sizeLine_eq, r.length]; exact h2, fun t ht => ?_⟩
        have sm := same_upd (u := .lst vs) ht
        exact post_outL (r := .stuck) R1 F1 q t _ _ ht upd_same (r.ext (Ext.of_same sm)) sm
      · exact (show False from q).elim
    · exact (show False from q).elim

/-! ### slices -/
def LiftP (K : PySem.W.Frag) (mg : Str → Option Value) (W : WX) (f : Sk → R (Option Int)) : TO := fun σ H Q => ∃ S, RelS K S σ H ∧ match f S with
  | .stuck => False
  | .ok o S' => ∀ H', RelS K S' σ H' → Frm S σ H S' σ H' → Q o H'
  | .exc e S' => ∀ cls d H', ExnRep K mg H' cls d e → RelS K S' σ H' → Frm S σ H S' σ H' → W cls d σ H'
structure EP (X : Cx) (W : WX) (e : Option Expr) (f : Sk → R (Option Int)) : Prop where
  po : PO X e (LiftP X.K X.mg W f)
theorem PO.imp {e : Option Expr} {t t' : TO} (h : PO X e t) (i : ∀ σ H Q, t' σ H Q → t σ H Q) : PO X e t' := ⟨fun pins s σ H Q I q => h.run pins s σ H Q I (i σ H Q q)⟩
def pNone : Sk → R (Option Int) := fun S => .ok none S
def pSome (f : Sk → R PV) : Sk → R (Option Int) := fun S => (f S).bind fun x S1 => match x with
  | .int i => .ok (some i) S1
  | _ => .stuck
theorem ep_none : EP X W none pNone := ⟨PO.imp po_none fun σ H Q ⟨S, R0, q⟩ => q H R0 .refl⟩
theorem ep_some {f : Sk → R PV} (h : EV X W e f) : EP X W (some e) (pSome f) := by
  refine ⟨PO.imp (po_some h.pe) fun σ H Q ⟨S, R0, q⟩ => ⟨S, R0, ?_⟩⟩
  unfold pSome at q
  cases hf : f S with
  | stuck => rw [hf] at q; exact q
  | exc y S1 => rw [hf] at q; exact q
  | ok x S1 =>
    rw [hf, R.bind_ok] at q
    intro v H1 rv R1 F1
    cases x <;> first | exact (show False from q).elim | skip
    cases rv
    exact ⟨_, rfl, q H1 R1 F1⟩
def slF (sem : PV → Option Int → Option Int → Option PV) (f : Sk → R OV) (l u : Sk → R (Option Int)) : Sk → R PV := fun S => (f S).bind fun x S1 => (l S1).bind fun lo S2 => (u S2).bind fun hi S3 => match look S3 x with
  | some p => (match sem p lo hi with
    | some z => .ok z S3
    | none => .stuck)
  | none => .stuck
def cutP (xs : List PV) (lo hi : Option Int) : List PV := (xs.drop (HT.sIx xs.length 0 lo)).take (HT.sIx xs.length xs.length hi - HT.sIx xs.length 0 lo)
theorem cut_rep {vs : List V} {xs : List PV} (r : RepA K H vs xs) (lo hi : Option Int) : RepA K H (cutV vs lo hi) (cutP xs lo hi) := by
  unfold cutV cutP
  rw [r.length]
  exact (r.drop _).take _
def sSl : PV → Option Int → Option Int → Option PV
  | .tup xs, lo, hi => some (.tup (cutP xs lo hi))
  | .str z, lo, hi => if z.length ≤ 16777216 then some (.str (cutS z lo hi)) else none
  | _, _, _ => none
def sSlL : PV → Option Int → Option Int → Option PV
  | .lst xs, lo, hi => some (.lst (cutP xs lo hi))
  | _, _, _ => none
abbrev rSlV (K : PySem.W.Frag) : V → Option Int → Option Int → Hp → VK → Prop := fun x lo hi H Q => rSlA K x lo hi H Q ∨ rSlS x lo hi H Q
theorem cut_whole {xs : List PV} {lo hi : Option Int} (h : HT.sIx xs.length 0 lo = 0 ∧ HT.sIx xs.length xs.length hi = xs.length) : cutP xs lo hi = xs := by
  unfold cutP
  rw [h.1, h.2, List.drop_zero, Nat.sub_zero, List.take_length]
theorem s_sl {x : V} {p z : PV} {lo hi : Option Int} {Q : VK} (hx : RT X.K H x p) (e : sSl p lo hi = some z) (o : Out X.K H z Q) : rSlV X.K x lo hi H Q := by
  unfold sSl at e
  split at e
  · cases e
    obtain ⟨a, vs, rfl, h1, r1⟩ := hx.tup
    refine .inl ⟨a, vs, rfl, SqT.of h1, fun hw => ?_, fun _ t ht => ?_⟩
    · rw [r1.length] at hw
      rw [cut_whole hw] at o
      exact o _ H (.tup h1 r1) (Same.refl H)
    · have sm := same_upd (u := .tup (cutV vs lo hi)) ht
      exact o _ _ (.tup upd_same ((cut_rep r1 lo hi).ext (Ext.of_same sm))) sm
  · split at e
    · rename_i h
      cases e
      exact .inr ⟨_, hx.str, by rw [sizeLine_eq]; exact h, o _ H (.str _) (Same.refl H)⟩
    · cases e
  · cases e
theorem s_slL {x : V} {p z : PV} {lo hi : Option Int} {Q : VK} (hx : RT X.K H x p) (e : sSlL p lo hi = some z) (o : OutL X.K H z Q) : rSlL X.K x lo hi H Q := by
  unfold sSlL at e
  split at e
  · cases e
    obtain ⟨a, vs, rfl, h1, r1⟩ := hx.lst
    refine ⟨a, vs, rfl, h1, fun t ht => ?_⟩
    have sm := same_upd (u := .lst (cutV vs lo hi)) ht
    exact o t _ _ ht upd_same ((cut_rep r1 lo hi).ext (Ext.of_same sm)) sm
  · cases e
variable {lo hi : Option Expr} {fo : Sk → R OV} {fl fh : Sk → R (Option Int)} {p2 : Pos}
theorem ev_slice (ha : EO X W e fo) (hl : EP X W lo fl) (hh : EP X W hi fh) : EV X W (.Subscript e (.Slice lo hi none p2) pos) (slF sSl fo fl fh) := by
  refine ⟨PE.imp (pe_slice (sl_tupA.or sl_str) ha.pe hl.po hh.po) fun σ H Q ⟨S, R0, q⟩ => ⟨S, R0, ?_⟩⟩
  unfold slF at q
  cases h1 : fo S with
  | stuck => rw [h1] at q; exact q
  | exc y S1 => rw [h1] at q; exact q
  | ok x S1 =>
    rw [h1, R.bind_ok] at q
    intro v H1 ov R1 F1
    refine ⟨S1, R1, ?_⟩
    cases h2 : fl S1 with
    | stuck => rw [h2] at q; exact q
    | exc y S2 => rw [h2] at q; exact fun c d H2 er R2 F2 => q c d H2 er R2 (F1.trans F2)
    | ok l S2 =>
      rw [h2, R.bind_ok] at q
      intro H2 R2 F2
      refine ⟨S2, R2, ?_⟩
      cases h3 : fh S2 with
      | stuck => rw [h3] at q; exact q
      | exc y S3 => rw [h3] at q; exact fun c d H3 er R3 F3 => q c d H3 er R3 ((F1.trans F2).trans F3)
      | ok u S3 =>
        rw [h3, R.bind_ok] at q
        intro H3 R3 F3
        split at q
        · rename_i pv hp
          split at q
          · rename_i z hz
            exact s_sl (look_rt R3 ((ov.ext (R1.ext F2)).ext (R2.ext F3)) hp) hz (post_out (r := .stuck) R3 ((F1.trans F2).trans F3) q)
          · exact (show False from q).elim
        · exact (show False from q).elim
theorem el_slice (ha : EO X W e fo) (hl : EP X W lo fl) (hh : EP X W hi fh) : EL X W (.Subscript e (.Slice lo hi none p2) pos) (slF sSlL fo fl fh) := by
  refine ⟨PE.imp (pe_slice sl_list ha.pe hl.po hh.po) fun σ H Q ⟨S, R0, q⟩ => ⟨S, R0, ?_⟩⟩
  unfold slF at q
  cases h1 : fo S with
  | stuck => rw [h1] at q; exact q
  | exc y S1 => rw [h1] at q; exact q
  | ok x S1 =>
    rw [h1, R.bind_ok] at q
    intro v H1 ov R1 F1
    refine ⟨S1, R1, ?_⟩
    cases h2 : fl S1 with
    | stuck => rw [h2] at q; exact q
    | exc y S2 => rw [h2] at q; exact fun c d H2 er R2 F2 => q c d H2 er R2 (F1.trans F2)
    | ok l S2 =>
      rw [h2, R.bind_ok] at q
      intro H2 R2 F2
      refine ⟨S2, R2, ?_⟩
      cases h3 : fh S2 with
      | stuck => rw [h3] at q; exact q
      | exc y S3 => rw [h3] at q; exact fun c d H3 er R3 F3 => q c d H3 er R3 ((F1.trans F2).trans F3)
      | ok u S3 =>
        rw [h3, R.bind_ok] at q
        intro H3 R3 F3
        split at q
        · rename_i pv hp
          split at q
          · rename_i z hz
            exact s_slL (look_rt R3 ((ov.ext (R1.ext F2)).ext (R2.ext F3)) hp) hz (post_outL (r := .stuck) R3 ((F1.trans F2).trans F3) q)
          · exact (show False from q).elim
        · exact (show False from q).elim

/-! ### built-ins -/
theorem rts1 {vs : List V} {x : PV} (h : RTs K H vs [x]) : ∃ v, vs = [v] ∧ RT K H v x := by
  match vs, h with
  | [v], h => exact ⟨v, rfl, h.1⟩
theorem rts2 {vs : List V} {x y : PV} (h : RTs K H vs [x, y]) : ∃ v w, vs = [v, w] ∧ RT K H v x ∧ RT K H w y := by
  match vs, h with
  | [v, w], h => exact ⟨v, w, rfl, h.1, h.2.1⟩
def sLen : List PV → Option PV
  | [.tup xs] => some (.int xs.length)
  | [.lst xs] => some (.int xs.length)
  | [.scr ns] => some (.int ns.length)
  | [.str z] => if z.length ≤ 16777216 then some (.int z.length) else none
  | _ => none
theorem s_len : SemA X Out (fun xs H Q => ∃ x n, xs = [x] ∧ LenV X.K x H n ∧ Q (.int n) H) sLen := by
  intro H vs ps z Q h e o
  unfold sLen at e
  split at e
  · cases e
    obtain ⟨v, rfl, h1⟩ := rts1 h
    obtain ⟨a, ws, rfl, h2, r⟩ := h1.tup
    exact ⟨_, _, rfl, .inr ⟨ws, SqT.of h2, rfl⟩, by rw [r.length]; exact o _ H (.int _) (Same.refl H)⟩
  · cases e
    obtain ⟨v, rfl, h1⟩ := rts1 h
    obtain ⟨a, ws, rfl, h2, r⟩ := h1.lst
    exact ⟨_, _, rfl, .inl ⟨ws, h2, rfl⟩, by rw [r.length]; exact o _ H (.int _) (Same.refl H)⟩
  · cases e
    obtain ⟨v, rfl, h1⟩ := rts1 h
    obtain ⟨a, rfl, h2⟩ := h1.scr
    exact ⟨_, _, rfl, .inl ⟨_, h2.sq, rfl⟩, by rw [List.length_map]; exact o _ H (.int _) (Same.refl H)⟩
  · split at e
    · rename_i hz
      cases e
      obtain ⟨v, rfl, h1⟩ := rts1 h
      cases h1.str
      exact ⟨_, _, rfl, ⟨by rw [sizeLine_eq]; exact hz, rfl⟩, o _ H (.int _) (Same.refl H)⟩
    · cases e
  · cases e
def sAbs : List PV → Option PV
  | [.int i] => some (.int (if i < 0 then -i else i))
  | _ => none
theorem s_abs : SemA X Out (fun xs H Q => ∃ i, xs = [.int i] ∧ Q (.int (if i < 0 then -i else i)) H) sAbs := by
  intro H vs ps z Q h e o
  unfold sAbs at e
  split at e
  · cases e
    obtain ⟨v, rfl, h1⟩ := rts1 h
    cases h1.int
    exact ⟨_, rfl, o _ H (.int _) (Same.refl H)⟩
  · cases e
def sToInt : List PV → Option PV
  | [.int i] => some (.int i)
  | [.bl b] => some (.int (if b then 1 else 0))
  | _ => none
theorem s_toInt : SemA X Out (fun xs H Q => (∃ i, xs = [.int i] ∧ Q (.int i) H) ∨ ∃ k, xs = [.bl k] ∧ Q (.int (if k then 1 else 0)) H) sToInt := by
  intro H vs ps z Q h e o
  unfold sToInt at e
  split at e
  · cases e
    obtain ⟨v, rfl, h1⟩ := rts1 h
    cases h1.int
    exact .inl ⟨_, rfl, o _ H (.int _) (Same.refl H)⟩
  · cases e
    obtain ⟨v, rfl, h1⟩ := rts1 h
    cases h1.bl
    exact .inr ⟨_, rfl, o _ H (.int _) (Same.refl H)⟩
  · cases e
def sMax2 : List PV → Option PV
  | [.int i, .int j] => some (.int (if j > i then j else i))
  | _ => none
theorem s_max2 : SemA X Out (fun xs H Q => ∃ i j, xs = [.int i, .int j] ∧ Q (.int (if j > i then j else i)) H) sMax2 := by
  intro H vs ps z Q h e o
  unfold sMax2 at e
  split at e
  · cases e
    obtain ⟨v, w, rfl, h1, h2⟩ := rts2 h
    cases h1.int
    cases h2.int
    exact ⟨_, _, rfl, o _ H (.int _) (Same.refl H)⟩
  · cases e
def sMin2 : List PV → Option PV
  | [.int i, .int j] => some (.int (if j < i then j else i))
  | _ => none
theorem s_min2 : SemA X Out (fun xs H Q => ∃ i j, xs = [.int i, .int j] ∧ Q (.int (if j < i then j else i)) H) sMin2 := by
  intro H vs ps z Q h e o
  unfold sMin2 at e
  split at e
  · cases e
    obtain ⟨v, w, rfl, h1, h2⟩ := rts2 h
    cases h1.int
    cases h2.int
    exact ⟨_, _, rfl, o _ H (.int _) (Same.refl H)⟩
  · cases e
/-- whole numbers alone; truth values alone -/
def intsOf : List PV → Option (List Int)
  | [] => some []
  | .int i :: xs => (intsOf xs).map (i :: ·)
  | _ :: _ => none
def blsOf : List PV → Option (List Bool)
  | [] => some []
  | .bl b :: xs => (blsOf xs).map (b :: ·)
  | _ :: _ => none
theorem intsOf_eq : ∀ {xs : List PV} {ns : List Int}, intsOf xs = some ns → xs = ns.map PV.int
  | [], ns, e => by cases e; rfl
  | x :: xs, ns, e => by
    cases x <;> first | (cases e; done) | skip
    obtain ⟨ms, h1, h2⟩ := Option.map_eq_some_iff.mp e
    cases h2
    rw [intsOf_eq h1, List.map_cons]
theorem intsOf_map (ns : List Int) : intsOf (ns.map PV.int) = some ns := by
  induction ns with
  | nil => rfl
  | cons n ns ih => rw [List.map_cons, intsOf, ih]; rfl
theorem blsOf_eq : ∀ {xs : List PV} {ns : List Bool}, blsOf xs = some ns → xs = ns.map PV.bl
  | [], ns, e => by cases e; rfl
  | x :: xs, ns, e => by
    cases x <;> first | (cases e; done) | skip
    obtain ⟨ms, h1, h2⟩ := Option.map_eq_some_iff.mp e
    cases h2
    rw [blsOf_eq h1, List.map_cons]
theorem blsOf_map (ns : List Bool) : blsOf (ns.map PV.bl) = some ns := by
  induction ns with
  | nil => rfl
  | cons n ns ih => rw [List.map_cons, blsOf, ih]; rfl
def sSum : List PV → Option PV
  | [.lst xs] => (intsOf xs).map fun ns => .int ns.sum
  | _ => none
theorem s_sum : SemA X Out (rSum X.K) sSum := by
  intro H vs ps z Q h e o
  unfold sSum at e
  split at e
  · obtain ⟨ns, h3, h4⟩ := Option.map_eq_some_iff.mp e
    cases h4
    have e2 := intsOf_eq h3
    subst e2
    obtain ⟨v, rfl, h1⟩ := rts1 h
    obtain ⟨a, ws, rfl, h2, r⟩ := h1.lst
    rw [r.ints] at h2
    exact ⟨a, ns, rfl, h2, o _ H (.int _) (Same.refl H)⟩
  · cases e
def sAny : List PV → Option PV
  | [.lst xs] => (blsOf xs).map fun bs => .bl (bs.any id)
  | _ => none
theorem s_any : SemA X Out (rAny X.K) sAny := by
  intro H vs ps z Q h e o
  unfold sAny at e
  split at e
  · obtain ⟨ns, h3, h4⟩ := Option.map_eq_some_iff.mp e
    cases h4
    have e2 := blsOf_eq h3
    subst e2
    obtain ⟨v, rfl, h1⟩ := rts1 h
    obtain ⟨a, ws, rfl, h2, r⟩ := h1.lst
    rw [r.bls] at h2
    exact ⟨a, ns, rfl, h2, o _ H (.bl _) (Same.refl H)⟩
  · cases e
def sAll : List PV → Option PV
  | [.lst xs] => (blsOf xs).map fun bs => .bl (bs.all id)
  | _ => none
theorem s_all : SemA X Out (rAll X.K) sAll := by
  intro H vs ps z Q h e o
  unfold sAll at e
  split at e
  · obtain ⟨ns, h3, h4⟩ := Option.map_eq_some_iff.mp e
    cases h4
    have e2 := blsOf_eq h3
    subst e2
    obtain ⟨v, rfl, h1⟩ := rts1 h
    obtain ⟨a, ws, rfl, h2, r⟩ := h1.lst
    rw [r.bls] at h2
    exact ⟨a, ns, rfl, h2, o _ H (.bl _) (Same.refl H)⟩
  · cases e
/-- tuple(x), list(x) of a list, a tuple -/
def sTuple : List PV → Option PV
  | [.lst xs] => some (.tup xs)
  | [.tup xs] => some (.tup xs)
  | _ => none
theorem s_tuple : SemA X Out (fun xs H Q => ∃ p ys, xs = [.ref p] ∧ ((SqL X.K H p ys ∧ ∀ l, H l = none → Q (.ref l) (upd H l (.tup ys))) ∨ (SqT X.K H p ys ∧ Q (.ref p) H))) sTuple := by
  intro H vs ps z Q h e o
  unfold sTuple at e
  split at e
  · cases e
    obtain ⟨v, rfl, h1⟩ := rts1 h
    obtain ⟨a, ws, rfl, h2, r⟩ := h1.lst
    refine ⟨a, ws, rfl, .inl ⟨h2, fun t ht => ?_⟩⟩
    have sm := same_upd (u := .tup ws) ht
    exact o _ _ (.tup upd_same (r.ext (Ext.of_same sm))) sm
  · cases e
    obtain ⟨v, rfl, h1⟩ := rts1 h
    obtain ⟨a, ws, rfl, h2, r⟩ := h1.tup
    exact ⟨a, ws, rfl, .inr ⟨SqT.of h2, o _ H (.tup h2 r) (Same.refl H)⟩⟩
  · cases e
def sList : List PV → Option PV
  | [.lst xs] => some (.lst xs)
  | [.tup xs] => some (.lst xs)
  | _ => none
theorem s_list : SemA X OutL (fun xs H Q => ∃ p ys, xs = [.ref p] ∧ (SqL X.K H p ys ∨ SqT X.K H p ys) ∧ ∀ l, H l = none → Q (.ref l) (upd H l (.lst ys))) sList := by
  intro H vs ps z Q h e o
  unfold sList at e
  split at e
  · cases e
    obtain ⟨v, rfl, h1⟩ := rts1 h
    obtain ⟨a, ws, rfl, h2, r⟩ := h1.lst
    refine ⟨a, ws, rfl, .inl h2, fun t ht => ?_⟩
    have sm := same_upd (u := .lst ws) ht
    exact o t _ _ ht upd_same (r.ext (Ext.of_same sm)) sm
  · cases e
    obtain ⟨v, rfl, h1⟩ := rts1 h
    obtain ⟨a, ws, rfl, h2, r⟩ := h1.tup
    refine ⟨a, ws, rfl, .inr (SqT.of h2), fun t ht => ?_⟩
    have sm := same_upd (u := .lst ws) ht
    exact o t _ _ ht upd_same (r.ext (Ext.of_same sm)) sm
  · cases e

/-! ### isinstance of a built-in type -/
inductive Ty where
  | int | bool | str | tuple | list | dict
def Ty.name : Ty → String
  | .int => "int"
  | .bool => "bool"
  | .str => "str"
  | .tuple => "tuple"
  | .list => "list"
  | .dict => "dict"
inductive Kd where
  | non | bl | int | str | tup | lst | dic
def Kd.name : Kd → String
  | .non => "NoneType"
  | .bl => "bool"
  | .int => "int"
  | .str => "str"
  | .tup => "tuple"
  | .lst => "list"
  | .dic => "dict"
def kdOf : PV → Kd
  | .non => .non
  | .bl _ => .bl
  | .int _ => .int
  | .str _ => .str
  | .tup _ => .tup
  | .lst _ => .lst
  | .dk _ => .dic
  | .dt _ => .dic
  | .scr _ => .lst
def isTyK : Ty → Kd → Bool
  | .int, .int => true
  | .int, .bl => true
  | .bool, .bl => true
  | .str, .str => true
  | .tuple, .tup => true
  | .list, .lst => true
  | .dict, .dic => true
  | _, _ => false
def isTy (T : Ty) (x : PV) : Bool := isTyK T (kdOf x)
def tyName (x : PV) : String := (kdOf x).name
theorem kitK (T : Ty) (k : Kd) : kitB k.name T.name = some (isTyK T k) := by
  cases T <;> cases k <;> decide +kernel
theorem kitTy (T : Ty) (x : PV) : kitB (tyName x) T.name = some (isTy T x) := kitK T (kdOf x)
def TyP (K : PySem.W.Frag) (H : Hp) (v : V) (t : String) : Prop := TyX K H v (.type t) ∨ ∃ a o kvs, v = .ref a ∧ H a = some (.frz o (.dT kvs)) ∧ t = "dict"
theorem rt_ty {v : V} {x : PV} (h : RT K H v x) : TyP K H v (tyName x) := by
  cases x with
  | non => rw [h.non]; exact .inl (.base .non)
  | bl b => rw [h.bl]; exact .inl (.base (.bl b))
  | int i => rw [h.int]; exact .inl (.base (.int i))
  | str z => rw [h.str]; exact .inl (.base (.str z))
  | tup xs => obtain ⟨a, ws, rfl, h2, r⟩ := h.tup; exact .inl (.base (.tup h2))
  | lst xs =>
    obtain ⟨a, ws, rfl, h2, r⟩ := h.lst
    rcases h2 with (h2 | ⟨o, h2⟩) | ⟨o, its, n, hk, hc, _⟩
    · exact .inl (.base (.lst h2))
    · exact .inl (.base (.frz h2))
    · exact .inl (.kList hk hc)
  | scr xs =>
    obtain ⟨a, rfl, h2⟩ := h.scr
    rcases h2 with ⟨o, h2⟩ | ⟨o, its, n, hk, hc, _⟩
    · exact .inl (.base (.frz h2))
    · exact .inl (.kList hk hc)
  | dk xs =>
    obtain ⟨a, ws, rfl, h2, r⟩ := h.dk
    rcases h2 with h2 | ⟨o, h2⟩
    · exact .inl (.base (.dK h2))
    · exact .inl (.fDict h2)
  | dt xs =>
    obtain ⟨a, ws, rfl, h2, r⟩ := h.dt
    rcases h2 with h2 | ⟨o, h2⟩
    · exact .inl (.base (.dT h2))
    · exact .inr ⟨a, o, ws, rfl, h2, rfl⟩
def rIsP (K : PySem.W.Frag) : List V → Hp → VK → Prop := fun xs H Q => ∃ (x : V) (T t : String) (b : Bool), xs = [x, .ty T] ∧ TyP K H x t ∧ kitB t T = some b ∧ Q (.bl b) H
theorem call_isP : CallR X (.builtin "isinstance") (rIsP X.K) := by
  intro pins s σ H xs us Q I r h
  obtain ⟨x, T, t, b, rfl, ty, e, q⟩ := h
  obtain ⟨u1, u2, rfl, r1, r2⟩ := vals2 r
  cases (show u2 = Value.type T from r2)
  rcases ty with ty | ⟨a, o, kvs, rfl, ha, rfl⟩
  · obtain ⟨P, Z, p, hx⟩ := kit_of I r1 ty
    exact PySem.W.kia_one Z I.kIn p (kit_ty e) hx fun tk => ⟨.bl b, H, I.tok tk, rfl, q⟩
  · cases (show u1 = Value.ref a from r1)
    obtain ⟨_, _, _, xs, _, o, es, ep, h1, h2, _⟩ := (show ObjOk X.prog X.w H s.heap a (.frz o (.dT kvs)) from I.hok a _ ha)
    exact PySem.W.kia_one PySem.W.kitx_dict I.kIn ⟨o, h1, h2.1⟩ (kit_ty e) (fun z => nomatch z) fun tk => ⟨.bl b, H, I.tok tk, rfl, q⟩
def isiF (T : Ty) (f : Sk → R OV) : Sk → R PV := op1 (fun x => some (.bl (isTy T x))) f
theorem ev_isi {T : Ty} {a c : Expr} {fo : Sk → R OV} {x : Str} {p pos : Pos} (hg : Gl X x) (hm : X.mg x = none) (hv : bootBuiltins x = some (.builtin "isinstance")) (ha : EO X W a fo) (hc : PE X c (tC (.ty T.name))) (hn : x ≠ "__name__") (hdb : (x == ("__debug__" : Str)) = false)
    (h1 : starEach [a, c] X.env = (false, eval a X.env) :: starEach [c] X.env) (h2 : starEach [c] X.env = (false, eval c X.env) :: starEach [] X.env) (hpl : (backTo pos (starEach [c] X.env)).any (·.1) = false) :
    EV X W (.Call (.Name x p) [a, c] [] pos) (isiF T fo) := by
  refine ⟨PE.imp (pe_callB call_isP hg hm hv (pa_cons ha.pe (pa_cons hc pa_nil h2) h1) hn hdb h1 hpl) fun σ H Q ⟨S, R0, q⟩ => ⟨S, R0, ?_⟩⟩
  unfold isiF op1 at q
  cases hf : fo S with
  | stuck => rw [hf] at q; exact q
  | exc y S1 => rw [hf] at q; exact q
  | ok y S1 =>
    rw [hf, R.bind_ok] at q
    intro v H1 ov R1 F1
    split at q
    · rename_i z hz
      exact ⟨v, T.name, tyName z, isTy T z, rfl, rt_ty (look_rt R1 ov hz), kitTy T z, post_out (r := .stuck) R1 F1 q _ H1 (.bl _) (Same.refl H1)⟩
    · exact (show False from q).elim
end
end VL

set_option Elab.async false
set_option linter.all false
set_option autoImplicit false
set_option maxRecDepth 100000
set_option maxHeartbeats 4000000
/-! VL4: statements, targets, what changes an object of ours. -/
namespace VL
open PySem L2

inductive RV where
  | v (x : PV) | l (x : PV)
inductive O where
  | stuck | nx (S : Sk) | rt (r : RV) (S : Sk) | bk (S : Sk) | ct (S : Sk) | exc (e : Exn) (S : Sk)
section
variable {X : Cx} {W : WX} {K : PySem.W.Frag} {mg : Str → Option Value} {S S1 S' : Sk} {σ σ1 σ' : St} {H H1 H' : Hp}

def PostS (K : PySem.W.Frag) (mg : Str → Option Value) (W : WX) (S : Sk) (σ : St) (H : Hp) (r : O) (D : Ends) : Prop := match r with
  | .stuck => False
  | .nx S' => ∀ σ' H', RelS K S' σ' H' → Frm S σ H S' σ' H' → D.nx σ' H'
  | .bk S' => ∀ σ' H', RelS K S' σ' H' → Frm S σ H S' σ' H' → D.bk σ' H'
  | .ct S' => ∀ σ' H', RelS K S' σ' H' → Frm S σ H S' σ' H' → D.ct σ' H'
  | .rt (.v x) S' => ∀ v σ' H', Rep K H' v x → RelS K S' σ' H' → Frm S σ H S' σ' H' → D.rt v H'
  | .rt (.l x) S' => ∀ p u σ' H', H' p = some u → RepOb K H' u x → ¬ Owns S' σ' p → (∀ o, H p = some o → Owns S σ p) → RelS K S' σ' H' → Frm S σ H S' σ' H' → D.rt (.ref p) H'
  | .exc e S' => ∀ cls d σ' H', ExnRep K mg H' cls d e → RelS K S' σ' H' → Frm S σ H S' σ' H' → W cls d σ' H'
def LiftS (K : PySem.W.Frag) (mg : Str → Option Value) (W : WX) (F : Sk → O) : TS := fun D σ H => ∃ S, RelS K S σ H ∧ PostS K mg W S σ H (F S) D
structure VS (X : Cx) (W : WX) (st : Stmt) (F : Sk → O) : Prop where
  ps : PS X st (LiftS X.K X.mg W F)
structure VSs (X : Cx) (W : WX) (st : List Stmt) (F : Sk → O) : Prop where
  ps : PSs X st (LiftS X.K X.mg W F)
theorem PS.imp {st : Stmt} {t t' : TS} (h : PS X st t) (i : ∀ D σ H, t' D σ H → t D σ H) : PS X st t' := ⟨fun pins s σ H D I q => h.run pins s σ H D I (i D σ H q)⟩
theorem PSs.imp {st : List Stmt} {t t' : TS} (h : PSs X st t) (i : ∀ D σ H, t' D σ H → t D σ H) : PSs X st t' := ⟨fun pins s σ H D I q => h.run pins s σ H D I (i D σ H q)⟩
/-- from a later state on -/
theorem PostS.step {r : O} {D : Ends} (q : PostS K mg W S σ H r D) (F : Frm S σ H S1 σ1 H1) : PostS K mg W S1 σ1 H1 r D := by
  cases r with
  | stuck => exact q
  | nx S' => exact fun σ' H' R G => q σ' H' R (F.trans G)
  | bk S' => exact fun σ' H' R G => q σ' H' R (F.trans G)
  | ct S' => exact fun σ' H' R G => q σ' H' R (F.trans G)
  | rt r S' =>
    cases r with
    | v x => exact fun v σ' H' rv R G => q v σ' H' rv R (F.trans G)
    | l x =>
      intro p u σ' H' h1 h2 h3 h4 R G
      refine q p u σ' H' h1 h2 h3 (fun o ho => ?_) R (F.trans G)
      by_cases hw : Owns S σ p
      · exact hw
      · have z := F.keep p o ho hw
        exact absurd (h4 o z.1) z.2
  | exc e S' => exact fun c d σ' H' er R G => q c d σ' H' er R (F.trans G)

/-! ### slots are set -/
theorem get_set {α : Type} {l : List α} {i j : Nat} {x y : α} (h : (l.set i x)[j]? = some y) : (i = j ∧ y = x) ∨ (i ≠ j ∧ l[j]? = some y) := by
  by_cases e : i = j
  · subst e
    left
    refine ⟨rfl, ?_⟩
    by_cases hl : i < l.length
    · rw [List.getElem?_set_self hl] at h; exact (Option.some.inj h).symm
    · rw [List.getElem?_eq_none (by simpa using hl)] at h; cases h
  · right
    rw [List.getElem?_set_ne e] at h
    exact ⟨e, h⟩
theorem RelS.setVal (R : RelS K S σ H) {i : Nat} {x : PV} {v : V} (r : Rep K H v x) : RelS K (S.set i (.val x)) (σ.set i (some v)) H := by
  refine ⟨by rw [List.length_set, List.length_set]; exact R.len, fun j s h => ?_, fun j k s t a h1 h2 o1 o2 e1 e2 => ?_⟩
  · rcases get_set h with ⟨rfl, rfl⟩ | ⟨ne, h⟩
    · have hl : i < S.length := by
        have := (List.getElem?_eq_some_iff.mp h).1
        simpa using this
      exact ⟨v, List.getElem?_set_self (by rw [R.len]; exact hl), r⟩
    · rw [List.getElem?_set_ne ne]
      exact R.sl j s h
  · rcases get_set h1 with ⟨rfl, rfl⟩ | ⟨n1, h1⟩
    · cases o1
    · rcases get_set h2 with ⟨rfl, rfl⟩ | ⟨n2, h2⟩
      · cases o2
      · rw [List.getElem?_set_ne n1] at e1
        rw [List.getElem?_set_ne n2] at e2
        exact R.dj j k s t a h1 h2 o1 o2 e1 e2
def unpinned (S : Sk) (i : Nat) : Bool := match S[i]? with
  | some s => !pinned s
  | none => false
theorem Frm.setVal {i : Nat} {x : PV} {v : V} : Frm S σ H (S.set i (.val x)) (σ.set i (some v)) H := by
  refine ⟨fun a o h n => ⟨h, fun ⟨j, s, h1, h2, h3⟩ => ?_⟩, fun j s h p => ?_⟩
  · rcases get_set h1 with ⟨rfl, rfl⟩ | ⟨ne, h1⟩
    · cases h2
    · rw [List.getElem?_set_ne ne] at h3
      exact n ⟨j, s, h1, h2, h3⟩
  · rcases get_set h with ⟨rfl, rfl⟩ | ⟨ne, h⟩
    · cases p
    · exact ⟨⟨s, h, p⟩, List.getElem?_set_ne ne⟩
theorem RelS.setOwn (R : RelS K S σ H) {i : Nat} {x : PV} {p : Addr} {u : HO} (hu : H p = some u) (r : RepOb K H u x) (hn : ¬ Owns S σ p) : RelS K (S.set i (.own x)) (σ.set i (some (.ref p))) H := by
  refine ⟨by rw [List.length_set, List.length_set]; exact R.len, fun j s h => ?_, fun j k s t a h1 h2 o1 o2 e1 e2 => ?_⟩
  · rcases get_set h with ⟨rfl, rfl⟩ | ⟨ne, h⟩
    · have hl : i < S.length := by
        have := (List.getElem?_eq_some_iff.mp h).1
        simpa using this
      exact ⟨p, u, List.getElem?_set_self (by rw [R.len]; exact hl), hu, r⟩
    · rw [List.getElem?_set_ne ne]
      exact R.sl j s h
  · rcases get_set h1 with ⟨rfl, rfl⟩ | ⟨n1, h1'⟩
    · rcases get_set h2 with ⟨rfl, rfl⟩ | ⟨n2, h2'⟩
      · rfl
      · rw [List.getElem?_set_ne n2] at e2
        rcases get_set e1 with ⟨_, z⟩ | ⟨z, _⟩
        · cases z
          exact absurd ⟨k, t, h2', o2, e2⟩ hn
        · exact absurd rfl z
    · rw [List.getElem?_set_ne n1] at e1
      rcases get_set h2 with ⟨rfl, rfl⟩ | ⟨n2, h2'⟩
      · rcases get_set e2 with ⟨_, z⟩ | ⟨z, _⟩
        · cases z
          exact absurd ⟨j, s, h1', o1, e1⟩ hn
        · exact absurd rfl z
      · rw [List.getElem?_set_ne n2] at e2
        exact R.dj j k s t a h1' h2' o1 o2 e1 e2
/-- a new object is stored: what stood before and was not ours is not it -/
theorem Frm.setOwn {i : Nat} {x : PV} {p : Addr} (F : Frm S σ H S1 σ1 H1) (hp : ∀ o, H p = some o → Owns S σ p) : Frm S σ H (S1.set i (.own x)) (σ1.set i (some (.ref p))) H1 := by
  refine ⟨fun a o h n => ?_, fun j s h pn => ?_⟩
  · have z := F.keep a o h n
    refine ⟨z.1, fun ⟨j, s, h1, h2, h3⟩ => ?_⟩
    rcases get_set h1 with ⟨rfl, rfl⟩ | ⟨ne, h1⟩
    · rcases get_set h3 with ⟨_, e⟩ | ⟨e, _⟩
      · cases e
        exact n (hp o h)
      · exact absurd rfl e
    · rw [List.getElem?_set_ne ne] at h3
      exact z.2 ⟨j, s, h1, h2, h3⟩
  · rcases get_set h with ⟨rfl, rfl⟩ | ⟨ne, h⟩
    · cases pn
    · rw [List.getElem?_set_ne ne]
      exact F.io j s h pn

/-! ### small statements -/
def seqF (F G : Sk → O) : Sk → O := fun S => match F S with
  | .nx S1 => G S1
  | .stuck => .stuck
  | .rt r S1 => .rt r S1
  | .bk S1 => .bk S1
  | .ct S1 => .ct S1
  | .exc e S1 => .exc e S1
def nxF : Sk → O := fun S => .nx S
variable {st : Stmt} {sts : List Stmt} {F G : Sk → O} {e : Expr} {f : Sk → R PV} {pos : Pos}
theorem vss_nil : VSs X W [] nxF := ⟨PSs.imp pss_nil fun D σ H ⟨S, R0, q⟩ => q σ H R0 .refl⟩
theorem vss_cons (h1 : VS X W st F) (h2 : VSs X W sts G) : VSs X W (st :: sts) (seqF F G) := by
  refine ⟨PSs.imp (pss_cons h1.ps h2.ps) fun D σ H ⟨S, R0, q⟩ => ⟨S, R0, ?_⟩⟩
  unfold seqF at q
  cases hF : F S with
  | nx S1 => rw [hF] at q; exact fun σ1 H1 R1 F1 => ⟨S1, R1, q.step F1⟩
  | stuck => rw [hF] at q; exact q
  | rt r S1 => rw [hF] at q; cases r <;> exact q
  | bk S1 => rw [hF] at q; exact q
  | ct S1 => rw [hF] at q; exact q
  | exc e S1 => rw [hF] at q; exact q
theorem vss_one (h1 : VS X W st F) : VSs X W [st] F := ⟨pss_one h1.ps⟩
theorem vs_pass : VS X W (.Pass pos) nxF := ⟨PS.imp ps_pass fun D σ H ⟨S, R0, q⟩ => q σ H R0 .refl⟩
def bkF : Sk → O := fun S => .bk S
def ctF : Sk → O := fun S => .ct S
theorem vs_break : VS X W (.Break pos) bkF := ⟨PS.imp ps_break fun D σ H ⟨S, R0, q⟩ => q σ H R0 .refl⟩
theorem vs_continue : VS X W (.Continue pos) ctF := ⟨PS.imp ps_continue fun D σ H ⟨S, R0, q⟩ => q σ H R0 .refl⟩
/-- from a reckoning on -/
def R.toO {α : Type} (r : R α) (f : α → Sk → O) : O := match r with
  | .stuck => .stuck
  | .ok a S => f a S
  | .exc e S => .exc e S
@[simp] theorem R.toO_ok {α : Type} (a : α) (S : Sk) (f : α → Sk → O) : (R.ok a S).toO f = f a S := rfl
@[simp] theorem R.toO_stuck {α : Type} (f : α → Sk → O) : (R.stuck : R α).toO f = .stuck := rfl
@[simp] theorem R.toO_exc {α : Type} (e : Exn) (S : Sk) (f : α → Sk → O) : (R.exc e S : R α).toO f = .exc e S := rfl
def exprF (f : Sk → R PV) : Sk → O := fun S => (f S).toO fun _ S1 => .nx S1
theorem vs_expr (h : EV X W e f) (hs : swapsWith e none pos.line X.env = pure false) : VS X W (.Expr e pos) (exprF f) := by
  refine ⟨PS.imp (ps_expr h.pe hs) fun D σ H ⟨S, R0, q⟩ => ⟨S, R0, ?_⟩⟩
  unfold exprF at q
  cases hf : f S with
  | stuck => rw [hf] at q; exact q
  | exc y S1 => rw [hf] at q; exact fun c d H1 er R1 F1 => q c d σ H1 er R1 F1
  | ok x S1 => rw [hf] at q; exact fun v H1 rv R1 F1 => q σ H1 R1 F1
theorem vs_doc {x : Str} {j : Nat} {pos' : Pos} : VS X W (.Expr (.Constant (.str x) j pos) pos') nxF := ⟨PS.imp ps_doc fun D σ H ⟨S, R0, q⟩ => q σ H R0 .refl⟩
def retF (f : Sk → R PV) : Sk → O := fun S => (f S).toO fun x S1 => .rt (.v x) S1
def retLF (f : Sk → R PV) : Sk → O := fun S => (f S).toO fun x S1 => .rt (.l x) S1
def retNF : Sk → O := fun S => .rt (.v .non) S
theorem vs_ret (h : EV X W e f) : VS X W (.Return (some e) pos) (retF f) := by
  refine ⟨PS.imp (ps_ret h.pe) fun D σ H ⟨S, R0, q⟩ => ⟨S, R0, ?_⟩⟩
  unfold retF at q
  cases hf : f S with
  | stuck => rw [hf] at q; exact q
  | exc y S1 => rw [hf] at q; exact fun c d H1 er R1 F1 => q c d σ H1 er R1 F1
  | ok x S1 => rw [hf] at q; exact fun v H1 rv R1 F1 => q v σ H1 rv R1 F1
theorem vs_retL (h : EL X W e f) : VS X W (.Return (some e) pos) (retLF f) := by
  refine ⟨PS.imp (ps_ret h.pe) fun D σ H ⟨S, R0, q⟩ => ⟨S, R0, ?_⟩⟩
  unfold retLF at q
  cases hf : f S with
  | stuck => rw [hf] at q; exact q
  | exc y S1 => rw [hf] at q; exact fun c d H1 er R1 F1 => q c d σ H1 er R1 F1
  | ok x S1 => rw [hf] at q; exact fun p u H1 h1 h2 h3 h4 R1 F1 => q p u σ H1 h1 h2 h3 h4 R1 F1
theorem vs_retN : VS X W (.Return none pos) retNF := ⟨PS.imp ps_retN fun D σ H ⟨S, R0, q⟩ => q .non σ H .non R0 .refl⟩
def ifS (c : Sk → R Bool) (F G : Sk → O) : Sk → O := fun S => (c S).toO fun b S1 => if b = true then F S1 else G S1
variable {c : Expr} {gc : Sk → R Bool} {as bs : List Stmt}
theorem vs_if (hc : ET X W c gc) (ha : VSs X W as F) (hb : VSs X W bs G) : VS X W (.If c as bs pos) (ifS gc F G) := by
  refine ⟨PS.imp (ps_if hc.pt ha.ps hb.ps) fun D σ H ⟨S, R0, q⟩ => ⟨S, R0, ?_⟩⟩
  unfold ifS at q
  cases hf : gc S with
  | stuck => rw [hf] at q; exact q
  | exc y S1 => rw [hf] at q; exact fun c d H1 er R1 F1 => q c d σ H1 er R1 F1
  | ok x S1 =>
    rw [hf, R.toO_ok] at q
    intro H1 R1 F1
    cases x with
    | true => exact ⟨S1, R1, (show PostS X.K X.mg W S σ H (F S1) D from q).step F1⟩
    | false => exact ⟨S1, R1, (show PostS X.K X.mg W S σ H (G S1) D from q).step F1⟩

/-! ### targets -/
def Off (ts : List Nat) (σ σ' : St) : Prop := σ'.length = σ.length ∧ ∀ i, i ∉ ts → σ'[i]? = σ[i]?
theorem Off.refl {ts : List Nat} {σ : St} : Off ts σ σ := ⟨rfl, fun _ _ => rfl⟩
theorem Off.trans {ts : List Nat} {σ σ1 σ2 : St} (a : Off ts σ σ1) (b : Off ts σ1 σ2) : Off ts σ σ2 := ⟨b.1.trans a.1, fun i h => (b.2 i h).trans (a.2 i h)⟩
theorem Off.mono {ts us : List Nat} {σ σ' : St} (h : ∀ i ∈ ts, i ∈ us) (a : Off ts σ σ') : Off us σ σ' := ⟨a.1, fun i n => a.2 i fun z => n (h i z)⟩
def LiftG (K : PySem.W.Frag) (ts : List Nat) (g : PV → Sk → Option Sk) : TG := fun v σ H Q => ∃ S x, RelS K S σ H ∧ Rep K H v x ∧ match g x S with
  | none => False
  | some S' => ∀ σ' H', RelS K S' σ' H' → Frm S σ H S' σ' H' → Off ts σ σ' → Q σ' H'
structure EG (X : Cx) (tg : Expr) (ts : List Nat) (g : PV → Sk → Option Sk) : Prop where
  pg : PG X tg (LiftG X.K ts g)
theorem PG.imp {tg : Expr} {t t' : TG} (h : PG X tg t) (i : ∀ v σ H Q, t' v σ H Q → t v σ H Q) : PG X tg t' := ⟨fun pins s σ H v u Q I r q => h.run pins s σ H v u Q I r (i v σ H Q q)⟩
def gSet (i : Nat) : PV → Sk → Option Sk := fun x S => if unpinned S i = true then some (S.set i (.val x)) else none
theorem off_set {i : Nat} {o : Option V} : Off [i] σ (σ.set i o) := ⟨List.length_set, fun j h => List.getElem?_set_ne (fun e => h (by simp [e]))⟩
theorem eg_name {i : Nat} {tg : Expr} (h : PG X tg (gName i)) : EG X tg [i] (gSet i) := by
  refine ⟨PG.imp h fun v σ H Q ⟨S, x, R0, r, q⟩ => ?_⟩
  unfold gSet at q
  split at q
  · exact (show False from q).elim
  · rename_i S' e
    split at e
    · cases e
      exact q _ H (R0.setVal r) .setVal off_set
    · cases e
def LiftGs (K : PySem.W.Frag) (us : List Nat) (g : List PV → Sk → Option Sk) : TGs := fun vs σ H Q => ∃ S xs, RelS K S σ H ∧ RepA K H vs xs ∧ match g xs S with
  | none => False
  | some S' => ∀ σ' H', RelS K S' σ' H' → Frm S σ H S' σ' H' → Off us σ σ' → Q σ' H'
structure EGs (X : Cx) (ts : List Expr) (us : List Nat) (g : List PV → Sk → Option Sk) : Prop where
  pg : PGs X ts (LiftGs X.K us g)
theorem PGs.imp {ts : List Expr} {t t' : TGs} (h : PGs X ts t) (i : ∀ v σ H Q, t' v σ H Q → t v σ H Q) : PGs X ts t' := ⟨fun pins s σ H v u Q I r q => h.run pins s σ H v u Q I r (i v σ H Q q)⟩
def gsNil : List PV → Sk → Option Sk := fun xs S => match xs with
  | [] => some S
  | _ => none
def gsCons (g : PV → Sk → Option Sk) (r : List PV → Sk → Option Sk) : List PV → Sk → Option Sk := fun xs S => match xs with
  | x :: xs => (match g x S with
    | some S1 => r xs S1
    | none => none)
  | [] => none
theorem egs_nil : EGs X [] [] gsNil := by
  refine ⟨PGs.imp pgs_nil fun vs σ H Q ⟨S, xs, R0, r, q⟩ => ?_⟩
  cases r with
  | nil => exact ⟨rfl, q σ H R0 .refl .refl⟩
  | cons a b => exact (show False from q).elim
theorem egs_cons {tg : Expr} {ts : List Expr} {us ws : List Nat} {g : PV → Sk → Option Sk} {r : List PV → Sk → Option Sk} (h1 : EG X tg us g) (h2 : EGs X ts ws r) (hs : (assignEach (tg :: ts) X.env).map (·.2) = assign tg X.env :: (assignEach ts X.env).map (·.2)) :
    EGs X (tg :: ts) (us ++ ws) (gsCons g r) := by
  refine ⟨PGs.imp (pgs_cons h1.pg h2.pg hs) fun vs σ H Q ⟨S, xs, R0, rr, q⟩ => ?_⟩
  cases rr with
  | nil => exact (show False from q).elim
  | @cons v vs x xs a b =>
    refine ⟨v, vs, rfl, S, x, R0, a, ?_⟩
    have q' : match (match g x S with
      | some S1 => r xs S1
      | none => none) with
      | none => False
      | some S' => ∀ σ' H', RelS X.K S' σ' H' → Frm S σ H S' σ' H' → Off (us ++ ws) σ σ' → Q σ' H' := q
    cases hg : g x S with
    | none => rw [hg] at q'; exact q'
    | some S1 =>
      rw [hg] at q'
      dsimp only at q'
      intro σ1 H1 R1 F1 O1
      refine ⟨S1, xs, R1, b.ext (R0.ext F1), ?_⟩
      cases hr : r xs S1 with
      | none => rw [hr] at q'; exact q'
      | some S2 => rw [hr] at q'; exact fun σ2 H2 R2 F2 O2 => q' σ2 H2 R2 (F1.trans F2) ((O1.mono fun i z => List.mem_append_left _ z).trans (O2.mono fun i z => List.mem_append_right _ z))
def gTupF (n : Nat) (g : List PV → Sk → Option Sk) : PV → Sk → Option Sk := fun x S => match x with
  | .tup xs => if xs.length = n then g xs S else none
  | _ => none
theorem eg_tup {es : List Expr} {us : List Nat} {k n : Nat} {g : List PV → Sk → Option Sk} (hc : X.calm = true) (h : EGs X es us g) (hn : (assignEach es X.env).length = n) (hst : (assignEach es X.env).findIdx? (·.1) = none) : EG X (.Tuple es k pos) us (gTupF n g) := by
  refine ⟨PG.imp (pg_tup hc h.pg hn hst) fun v σ H Q ⟨S, x, R0, r, q⟩ => ?_⟩
  cases x <;> first | exact (show False from q).elim | skip
  rename_i xs
  cases r with
  | tup h1 r1 =>
    have q' : match (if xs.length = n then g xs S else none) with
      | none => False
      | some S' => ∀ σ' H', RelS X.K S' σ' H' → Frm S σ H S' σ' H' → Off us σ σ' → Q σ' H' := q
    by_cases hl : xs.length = n
    · rw [if_pos hl] at q'
      exact ⟨_, _, rfl, SqT.of h1, r1.length.trans hl, S, xs, R0, r1, q'⟩
    · rw [if_neg hl] at q'
      exact q'.elim
def asgF (f : Sk → R PV) (g : PV → Sk → Option Sk) : Sk → O := fun S => (f S).toO fun x S1 => match g x S1 with
  | some S2 => .nx S2
  | none => .stuck
theorem asg_lift {us : List Nat} {g : PV → Sk → Option Sk} {D : Ends} (h : LiftS K mg W (asgF f g) D σ H) : LiftE K mg W f σ H fun x H1 => LiftG K us g x σ H1 D.nx := by
  obtain ⟨S, R0, q⟩ := h
  refine ⟨S, R0, ?_⟩
  unfold asgF at q
  cases hf : f S with
  | stuck => rw [hf] at q; exact q
  | exc y S1 => rw [hf] at q; exact fun c d H1 er R1 F1 => q c d σ H1 er R1 F1
  | ok x S1 =>
    rw [hf, R.toO_ok] at q
    intro v H1 rv R1 F1
    refine ⟨S1, x, R1, rv, ?_⟩
    cases hg : g x S1 with
    | none => rw [hg] at q; exact q
    | some S2 => rw [hg] at q; exact fun σ2 H2 R2 F2 _ => q σ2 H2 R2 (F1.trans F2)
theorem vs_asg {tg : Expr} {us : List Nat} {g : PV → Sk → Option Sk} (he : EV X W e f) (hg : EG X tg us g) (hs : swapsWithSole [tg] e pos.line X.env = pure false) (hw : swappedStores [tg] e X.env = pure none) (h1 : (assignEach [tg] X.env).map (·.2) = [assign tg X.env]) :
    VS X W (.Assign [tg] e pos) (asgF f g) := ⟨PS.imp (ps_asg he.pe hg.pg hs hw h1) fun D σ H h => asg_lift h⟩
theorem gset_lift {i : Nat} {D : Ends} (h : LiftS K mg W (asgF f (gSet i)) D σ H) : LiftE K mg W f σ H fun x H1 => gName i x σ H1 D.nx := by
  obtain ⟨S, R0, q⟩ := asg_lift (us := [i]) h
  refine ⟨S, R0, ?_⟩
  cases hf : f S with
  | stuck => rw [hf] at q; exact q
  | exc y S1 => rw [hf] at q; exact q
  | ok x S1 =>
    rw [hf] at q
    intro v H1 rv R1 F1
    obtain ⟨S2, y, R2, rv2, z⟩ := q v H1 rv R1 F1
    unfold gSet at z
    split at z
    · exact z.elim
    · rename_i S3 e
      split at e
      · cases e
        exact z _ H1 (R2.setVal rv2) .setVal off_set
      · cases e
theorem vs_set {i : Nat} {te : TE} {target : Expr} (h : PS X (.Assign [target] e pos) (tAsg (LiftE X.K X.mg W f) (gName i))) : VS X W (.Assign [target] e pos) (asgF f (gSet i)) :=
  ⟨PS.imp h fun D σ H h => gset_lift h⟩
/-- x = [..]: an object of ours -/
def ownF (f : Sk → R PV) (i : Nat) : Sk → O := fun S => (f S).toO fun x S1 => if unpinned S1 i = true then .nx (S1.set i (.own x)) else .stuck
theorem vs_own {i : Nat} {target : Expr} (h : PS X (.Assign [target] e pos) (tAsg (LiftL X.K X.mg W f) (gName i))) : VS X W (.Assign [target] e pos) (ownF f i) := by
  refine ⟨PS.imp h fun D σ H ⟨S, R0, q⟩ => ⟨S, R0, ?_⟩⟩
  unfold ownF at q
  cases hf : f S with
  | stuck => rw [hf] at q; exact q
  | exc y S1 => rw [hf] at q; exact fun c d H1 er R1 F1 => q c d σ H1 er R1 F1
  | ok x S1 =>
    rw [hf, R.toO_ok] at q
    intro p u H1 h1 h2 h3 h4 R1 F1
    split at q
    · exact q _ H1 (R1.setOwn h1 h2 h3) (F1.setOwn h4)
    · exact (show False from q).elim
/-- a, b = x, y by plain local names -/
def parF (i j : Nat) (fa : Sk → R (List OV)) : Sk → O := fun S => (fa S).toO fun os S1 => match valsOf os with
  | some [x, y] => if unpinned S1 i = true ∧ unpinned S1 j = true then .nx ((S1.set i (.val x)).set j (.val y)) else .stuck
  | _ => .stuck
theorem vs_par {i j : Nat} {tg e : Expr} {fa : Sk → R (List OV)} (h : PS X (.Assign [tg] e pos) (tPar i j (LiftA X.K X.mg W fa))) : VS X W (.Assign [tg] e pos) (parF i j fa) := by
  refine ⟨PS.imp h fun D σ H ⟨S, R0, q⟩ => ⟨S, R0, ?_⟩⟩
  unfold parF at q
  cases hf : fa S with
  | stuck => rw [hf] at q; exact q
  | exc y S1 => rw [hf] at q; exact fun c d H1 er R1 F1 => q c d σ H1 er R1 F1
  | ok os S1 =>
    rw [hf, R.toO_ok] at q
    intro vs H1 ov R1 F1
    split at q
    · rename_i x y hv
      have r := valsOf_rep ov hv
      cases r with
      | cons a r =>
        cases r with
        | cons b r =>
          cases r
          split at q
          · exact ⟨_, _, rfl, q _ H1 ((R1.setVal a).setVal b) ((F1.trans .setVal).trans .setVal)⟩
          · exact (show False from q).elim
    · exact (show False from q).elim
/-- x op= e -/
def augF (i : Nat) (sem : PV → PV → Option PV) (f : Sk → R PV) : Sk → O := fun S => match S[i]? with
  | some (.val x) => (f S).toO fun y S1 => (match sem x y with
    | some z => if unpinned S1 i = true then .nx (S1.set i (.val z)) else .stuck
    | none => .stuck)
  | _ => .stuck
theorem vs_aug {i : Nat} {op : Operator} {ti : TIp} {sem : PV → PV → Option PV} {target : Expr} (h : PS X (.AugAssign target op e pos) (tAug i (LiftE X.K X.mg W f) ti))
    (hs : ∀ (H : Hp) (x y : V) (p q z : PV) (Q : VK), Rep X.K H x p → Rep X.K H y q → sem p q = some z → (∀ v, Rep X.K H v z → Q v H) → ti x y H Q) : VS X W (.AugAssign target op e pos) (augF i sem f) := by
  refine ⟨PS.imp h fun D σ H ⟨S, R0, q⟩ => ?_⟩
  unfold augF at q
  split at q
  · rename_i x hx
    obtain ⟨v, e1, rv⟩ := R0.atVal hx
    refine ⟨v, e1, S, R0, ?_⟩
    cases hf : f S with
    | stuck => rw [hf] at q; exact q
    | exc y S1 => rw [hf] at q; exact fun c d H1 er R1 F1 => q c d σ H1 er R1 F1
    | ok y S1 =>
      rw [hf, R.toO_ok] at q
      intro w H1 rw' R1 F1
      split at q
      · rename_i z hz
        split at q
        · exact hs H1 v w x y z _ (rv.ext (R0.ext F1)) rw' hz fun u ru => q _ H1 (R1.setVal ru) (F1.trans .setVal)
        · exact (show False from q).elim
      · exact (show False from q).elim
  · exact (show False from q).elim
theorem aug_add (H : Hp) (x y : V) (p q z : PV) (Q : VK) (hx : Rep X.K H x p) (hy : Rep X.K H y q) (e : sInt yes2 (fun i j => i + j) p q = some z) (o : ∀ v, Rep X.K H v z → Q v H) : ipI (fun i j => i + j) x y H Q := by
  unfold sInt at e
  split at e
  · rename_i i j
    rw [if_pos (show yes2 i j = true from rfl)] at e
    cases e
    cases hx
    cases hy
    exact ⟨i, j, rfl, rfl, o _ (.int _)⟩
  · cases e
theorem aug_sub (H : Hp) (x y : V) (p q z : PV) (Q : VK) (hx : Rep X.K H x p) (hy : Rep X.K H y q) (e : sInt yes2 (fun i j => i - j) p q = some z) (o : ∀ v, Rep X.K H v z → Q v H) : ipI (fun i j => i - j) x y H Q := by
  unfold sInt at e
  split at e
  · rename_i i j
    rw [if_pos (show yes2 i j = true from rfl)] at e
    cases e
    cases hx
    cases hy
    exact ⟨i, j, rfl, rfl, o _ (.int _)⟩
  · cases e

/-! ### an object of ours is moved, shared, changed -/
def moveF (j : Nat) : Sk → R PV := fun S => match S[j]? with
  | some (.own x) => .ok x (S.set j .no)
  | _ => .stuck
theorem RelS.setNo (R : RelS K S σ H) (i : Nat) : RelS K (S.set i .no) σ H := by
  refine ⟨by rw [List.length_set]; exact R.len, fun j s h => ?_, fun j k s t a h1 h2 o1 o2 e1 e2 => ?_⟩
  · rcases get_set h with ⟨rfl, rfl⟩ | ⟨ne, h⟩
    · trivial
    · exact R.sl j s h
  · rcases get_set h1 with ⟨rfl, rfl⟩ | ⟨n1, h1⟩
    · cases o1
    · rcases get_set h2 with ⟨rfl, rfl⟩ | ⟨n2, h2⟩
      · cases o2
      · exact R.dj j k s t a h1 h2 o1 o2 e1 e2
theorem Owns.setNo {i : Nat} {a : Addr} (h : Owns (S.set i .no) σ a) : Owns S σ a := by
  obtain ⟨j, s, h1, h2, h3⟩ := h
  rcases get_set h1 with ⟨rfl, rfl⟩ | ⟨ne, h1⟩
  · cases h2
  · exact ⟨j, s, h1, h2, h3⟩
theorem Frm.setNo {i : Nat} : Frm S σ H (S.set i .no) σ H := by
  refine ⟨fun a o h n => ⟨h, fun w => n w.setNo⟩, fun j s h p => ?_⟩
  rcases get_set h with ⟨rfl, rfl⟩ | ⟨ne, h⟩
  · cases p
  · exact ⟨⟨s, h, p⟩, rfl⟩
theorem el_move {j : Nat} {e : Expr} (h : PE X e (tVar j)) : EL X W e (moveF j) := by
  refine ⟨PE.imp h fun σ H Q ⟨S, R0, q⟩ => ?_⟩
  unfold moveF at q
  split at q
  · rename_i x hx
    obtain ⟨a, u, h1, h2, h3⟩ := R0.atOwn hx
    refine ⟨_, h1, q a u H h2 h3 (fun w => ?_) (fun o _ => ⟨j, _, hx, rfl, h1⟩) (R0.setNo j) .setNo⟩
    obtain ⟨k, s, k1, k2, k3⟩ := w
    rcases get_set k1 with ⟨rfl, rfl⟩ | ⟨ne, k1⟩
    · cases k2
    · exact ne (R0.dj j k _ s a hx k1 rfl k2 h1 k3)
  · exact (show False from q).elim
def getO (S : Sk) (j : Nat) : Option PV := match S[j]? with
  | some (.own x) => some x
  | some (.io x) => some x
  | _ => none
def putO (S : Sk) (j : Nat) (x : PV) : Sk := match S[j]? with
  | some (.own _) => S.set j (.own x)
  | some (.io _) => S.set j (.io x)
  | _ => S
theorem getO_rel (R : RelS K S σ H) {j : Nat} {x : PV} (h : getO S j = some x) : ∃ a u, σ[j]? = some (some (V.ref a)) ∧ H a = some u ∧ RepOb K H u x ∧ Owns S σ a := by
  unfold getO at h
  split at h
  · rename_i y hy
    cases h
    obtain ⟨a, u, h1, h2, h3⟩ := R.atOwn hy
    exact ⟨a, u, h1, h2, h3, j, _, hy, rfl, h1⟩
  · rename_i y hy
    cases h
    obtain ⟨a, u, h1, h2, h3⟩ := R.atIo hy
    exact ⟨a, u, h1, h2, h3, j, _, hy, rfl, h1⟩
  · cases h
/-- our object is written -/
theorem write_ext {a : Addr} {u u' : HO} {x : PV} (hu : H a = some u) (r : RepOb K H u x) : Ext H (upd H a u') :=
  ⟨fun b xs h => by rw [upd_ne (ne_of h hu (by intro e; exact r.notTup xs e.symm))]; exact h, fun b o w h => by rw [upd_ne (ne_of h hu (by intro e; exact r.notFrz o w e.symm))]; exact h⟩
theorem RelS.write (R : RelS K S σ H) {j : Nat} {x x' : PV} {a : Addr} {u u' : HO} (hg : getO S j = some x) (ha : σ[j]? = some (some (V.ref a))) (hu : H a = some u) (r : RepOb K H u x) (r' : RepOb K (upd H a u') u' x') :
    RelS K (putO S j x') σ (upd H a u') ∧ Frm S σ H (putO S j x') σ (upd H a u') := by
  have ex := write_ext (u' := u') hu r
  have key : ∀ (s s' : Sl), S[j]? = some s → ownd s = true → ownd s' = true → pinned s' = pinned s → SlRel K (upd H a u') s' σ[j]? → RelS K (S.set j s') σ (upd H a u') ∧ Frm S σ H (S.set j s') σ (upd H a u') := by
    intro s s' hs o1 o2 pn sr
    have ow : ∀ b, Owns (S.set j s') σ b → Owns S σ b := by
      rintro b ⟨k, t, k1, k2, k3⟩
      rcases get_set k1 with ⟨rfl, rfl⟩ | ⟨ne, k1⟩
      · exact ⟨j, s, hs, o1, k3⟩
      · exact ⟨k, t, k1, k2, k3⟩
    refine ⟨⟨by rw [List.length_set]; exact R.len, fun k t h => ?_, fun k l t t' b h1 h2 p1 p2 e1 e2 => ?_⟩, fun b o h n => ⟨?_, fun w => n (ow b w)⟩, fun k t h p => ?_⟩
    · rcases get_set h with ⟨rfl, rfl⟩ | ⟨ne, h⟩
      · exact sr
      · have q := R.sl k t h
        have nb : ∀ b, ownd t = true → σ[k]? = some (some (V.ref b)) → b ≠ a := fun b ot e z => ne (R.dj j k s t a hs h o1 ot ha (by rw [← z]; exact e))
        cases t with
        | no => trivial
        | hid => trivial
        | val y =>
          obtain ⟨v, h1, h2⟩ := R.atVal h
          exact ⟨v, h1, h2.ext ex⟩
        | own y =>
          obtain ⟨b, w, h1, h2, h3⟩ := R.atOwn h
          exact ⟨b, w, h1, by rw [upd_ne (nb b rfl h1)]; exact h2, h3.ext ex⟩
        | io y =>
          obtain ⟨b, w, h1, h2, h3⟩ := R.atIo h
          exact ⟨b, w, h1, by rw [upd_ne (nb b rfl h1)]; exact h2, h3.ext ex⟩
    · rcases get_set h1 with ⟨rfl, rfl⟩ | ⟨n1, h1'⟩
      · rcases get_set h2 with ⟨rfl, rfl⟩ | ⟨n2, h2'⟩
        · rfl
        · exact R.dj j l s t' b hs h2' o1 p2 e1 e2
      · rcases get_set h2 with ⟨rfl, rfl⟩ | ⟨n2, h2'⟩
        · exact R.dj k j t s b h1' hs p1 o1 e1 e2
        · exact R.dj k l t t' b h1' h2' p1 p2 e1 e2
    · rw [upd_ne (fun z => n (by rw [z]; exact ⟨j, s, hs, o1, ha⟩))]
      exact h
    · rcases get_set h with ⟨rfl, rfl⟩ | ⟨ne, h⟩
      · exact ⟨⟨s, hs, by rw [← pn]; exact p⟩, rfl⟩
      · exact ⟨⟨t, h, p⟩, rfl⟩
  unfold getO at hg
  unfold putO
  split at hg
  · rename_i y hy
    exact key _ _ hy rfl rfl rfl ⟨a, u', ha, upd_same, r'⟩
  · rename_i y hy
    exact key _ _ hy rfl rfl rfl ⟨a, u', ha, upd_same, r'⟩
  · cases hg
/-- a method that changes its list: its value, the new content; rs: how the arguments lie, ag: how they are taken -/
def mutF (j : Nat) (ag : Sk → List OV → Option (List PV)) (sem : PV → List PV → Option (PV × PV)) (fa : Sk → R (List OV)) : Sk → R PV := fun S => match getO S j with
  | some (.lst _) => (fa S).bind fun os S1 => (match getO S1 j, ag S1 os with
    | some c, some ps => (match sem c ps with
      | some (z, c') => .ok z (putO S1 j c')
      | none => .stuck)
    | _, _ => .stuck)
  | _ => .stuck
/-- the arguments as values; as they stand -/
def agV : Sk → List OV → Option (List PV) := fun _ => valsOf
def Ag (rs : PySem.W.Frag → Hp → List V → List PV → Prop) (ag : Sk → List OV → Option (List PV)) : Prop := ∀ (K : PySem.W.Frag) (S : Sk) (σ : St) (H : Hp) (os : List OV) (vs : List V) (xs : List PV), RelS K S σ H → OVs K σ H os vs → ag S os = some xs → rs K H vs xs
theorem agV_ok : Ag RepA agV := fun _ _ _ _ _ _ _ _ h e => valsOf_rep h e
theorem lookAll_ok : Ag RTs lookAll := fun _ _ _ _ _ _ _ R h e => lookAll_rt R h e
def MutR (X : Cx) (rs : PySem.W.Frag → Hp → List V → List PV → Prop) (r : V → List V → Hp → VK → Prop) (sem : PV → List PV → Option (PV × PV)) : Prop := ∀ (H : Hp) (a : Addr) (u : HO) (c : PV) (vs : List V) (ps : List PV) (z c' : PV) (Q : VK), H a = some u → RepOb X.K H u c → rs X.K H vs ps → sem c ps = some (z, c') →
  (∀ v u', (∀ H', Ext H H' → Rep X.K H' v z) → (∀ H', Ext H H' → RepOb X.K H' u' c') → Q v (upd H a u')) → r (.ref a) vs H Q
theorem ob_ty {a : Addr} {u : HO} {xs : List PV} (hu : H a = some u) (r : RepOb K H u (.lst xs)) : tyV K "list" (.ref a) H := by
  cases u <;> first | exact (show False from r).elim | exact Or.inl ⟨rfl, _, SqL.of hu⟩
theorem mut_lift {rs : PySem.W.Frag → Hp → List V → List PV → Prop} {ag : Sk → List OV → Option (List PV)} (hag : Ag rs ag) {j : Nat} {sem : PV → List PV → Option (PV × PV)} {fa : Sk → R (List OV)} {r : V → List V → Hp → VK → Prop} (hr : MutR X rs r sem) {σ : St} {H : Hp} {Q : VK}
    (h : LiftE X.K X.mg W (mutF j ag sem fa) σ H Q) : tVar j σ H fun x H1 => tyV X.K "list" x H1 ∧ LiftA X.K X.mg W fa σ H1 fun xs H2 => r x xs H2 Q := by
  obtain ⟨S, R0, q⟩ := h
  unfold mutF at q
  split at q
  · rename_i xs hc0
    obtain ⟨a, u, h1, h2, h3, h4⟩ := getO_rel R0 hc0
    refine ⟨_, h1, ob_ty h2 h3, S, R0, ?_⟩
    cases hf : fa S with
    | stuck => rw [hf] at q; exact q
    | exc y S1 => rw [hf] at q; exact q
    | ok os S1 =>
      rw [hf, R.bind_ok] at q
      intro vs H1 ov R1 F1
      split at q
      · rename_i c ps hc hp
        split at q
        · rename_i z c' hz
          obtain ⟨b, w, k1, k2, k3, k4⟩ := getO_rel R1 hc
          rw [h1] at k1
          cases k1
          refine hr H1 a w c vs ps z c' Q k2 k3 (hag _ _ _ _ _ _ _ R1 ov hp) hz fun v u' rv ro => ?_
          have ex := write_ext (u' := u') k2 k3
          obtain ⟨R2, F2⟩ := R1.write hc h1 k2 k3 (ro _ ex)
          exact q v _ (rv _ ex) R2 (F1.trans F2)
        · exact (show False from q).elim
      · exact (show False from q).elim
  · exact (show False from q).elim
/-- x.m(..) of a list of ours -/
theorem ev_mut {rs : PySem.W.Frag → Hp → List V → List PV → Prop} {ag : Sk → List OV → Option (List PV)} (hag : Ag rs ag) {j : Nat} {sem : PV → List PV → Option (PV × PV)} {fa : Sk → R (List OV)} {r : V → List V → Hp → VK → Prop} {e : Expr} (h : PE X e (tBM X.K "list" r (tVar j) (LiftA X.K X.mg W fa))) (hr : MutR X rs r sem) : EV X W e (mutF j ag sem fa) :=
  ⟨PE.imp h fun σ H Q h => mut_lift hag hr h⟩
theorem ev_mut0 {j : Nat} {sem : PV → List PV → Option (PV × PV)} {r : V → List V → Hp → VK → Prop} {e : Expr} (h : PE X e (tBM0 X.K "list" r (tVar j))) (hr : MutR X RepA r sem) : EV X W e (mutF j agV sem aNil) := by
  refine ⟨PE.imp h fun σ H Q h => ?_⟩
  obtain ⟨x, h1, h2, S, R0, q⟩ := mut_lift agV_ok hr h
  exact ⟨x, h1, h2, q [] H trivial R0 .refl⟩

/-! ### append, pop, extend, a store -/
theorem ob_lst {u : HO} {xs : List PV} (r : RepOb K H u (.lst xs)) : ∃ vs, u = .lst vs ∧ RepA K H vs xs := by
  cases u <;> first | exact (show False from r).elim | exact ⟨_, rfl, r⟩
theorem repA1 {vs : List V} {x : PV} (r : RepA K H vs [x]) : ∃ v, vs = [v] ∧ Rep K H v x := by
  cases r with
  | cons a b => cases b; exact ⟨_, rfl, a⟩
def sAppend : PV → List PV → Option (PV × PV)
  | .lst xs, [x] => if xs.length < 16777216 then some (.non, .lst (xs ++ [x])) else none
  | _, _ => none
theorem m_append : MutR X RepA rAppend sAppend := by
  intro H a u c vs ps z c' Q hu hc hr e o
  unfold sAppend at e
  split at e
  · split at e
    · rename_i xs x h
      cases e
      obtain ⟨ws, rfl, r⟩ := ob_lst hc
      obtain ⟨v, rfl, r2⟩ := repA1 hr
      exact ⟨a, ws, v, rfl, rfl, hu, by rw [sizeLine_eq, r.length]; exact h, o _ _ (fun _ _ => .non) fun H' ex => (r.append (.cons r2 .nil)).ext ex⟩
    · cases e
  · cases e
def sPop : PV → List PV → Option (PV × PV)
  | .lst xs, [] => match xs[xs.length - 1]? with
    | some x => some (x, .lst xs.dropLast)
    | none => none
  | _, _ => none
theorem m_pop : MutR X RepA rPop sPop := by
  intro H a u c vs ps z c' Q hu hc hr e o
  unfold sPop at e
  split at e
  · split at e
    · rename_i xs x h
      cases e
      obtain ⟨ws, rfl, r⟩ := ob_lst hc
      cases hr
      obtain ⟨v, hv, rv⟩ := r.get' h
      exact ⟨a, ws, v, rfl, rfl, hu, by rw [r.length]; exact hv, o _ _ (fun H' ex => rv.ext ex) fun H' ex => r.dropLast.ext ex⟩
    · cases e
  · cases e
def sPopAt : PV → List PV → Option (PV × PV)
  | .lst xs, [.int i] => if -(2 ^ 63) ≤ i ∧ i < 2 ^ 63 then (match seqIndex? i xs.length with
    | some k => (match xs[k]? with
      | some x => some (x, .lst (xs.eraseIdx k))
      | none => none)
    | none => none) else none
  | _, _ => none
theorem m_popAt : MutR X RepA rPopAt sPopAt := by
  intro H a u c vs ps z c' Q hu hc hr e o
  unfold sPopAt at e
  split at e
  · split at e
    · rename_i xs i h
      split at e
      · rename_i k hk
        split at e
        · rename_i x hx
          cases e
          obtain ⟨ws, rfl, r⟩ := ob_lst hc
          obtain ⟨v, rfl, r2⟩ := repA1 hr
          cases r2
          obtain ⟨v, hv, rv⟩ := r.get' hx
          exact ⟨a, ws, i, k, v, rfl, rfl, hu, h.1, h.2, by rw [r.length]; exact hk, hv, o _ _ (fun H' ex => rv.ext ex) fun H' ex => (r.eraseIdx k).ext ex⟩
        · cases e
      · cases e
    · cases e
  · cases e
def rExtendA : V → List V → Hp → VK → Prop := fun x vs H Q => ∃ l b xs zs, x = .ref l ∧ vs = [.ref b] ∧ H l = some (.lst xs) ∧ Rd H b (.lst zs) ∧ xs.length + zs.length ≤ sizeLine ∧ Q .non (upd H l (.lst (xs ++ zs)))
theorem mt_extendA : MtM X "list.extend" rExtendA := by
  intro pins s σ H x vs v us Q I rx rv h
  obtain ⟨l, b, xs, zs, rfl, rfl, hH, hB, hz, q⟩ := h
  cases rx
  obtain ⟨u, rfl, ru⟩ := rv.one
  cases ru
  obtain ⟨z, its, n, r, hl, e⟩ := I.lstM hH
  obtain ⟨z2, its2, n2, r2, e2⟩ := hB.ok I.hok
  have hl2 := r2.length
  have hsz : its.toArray.size + its2.toArray.size ≤ sizeLine := by rw [List.size_toArray, List.size_toArray]; omega
  have hlong : ¬ (!its.toArray.isEmpty && Builtin.List.listTooLong (its.toArray.size + its2.toArray.size)) = true := by
    rw [notLongL hsz, Bool.and_false]
    exact Bool.false_ne_true
  refine call_meets F.slot_list_extend ⟨_, e, rfl⟩ F.entry_list_extend (F.args_list_extend_2 _ _)
    (AutoSeq1.list_extend_list_list_0 l its.toArray n b its2.toArray n2 hlong (by rw [List.size_toArray]; omega) (by omega)) ⟨e, e2, ?_⟩
  refine ⟨.non, _, I.lset (its' := its ++ its2) hH e (by simp) (r.append r2) ?_, rfl, q⟩
  rw [List.length_append]
  omega
def sExtend : PV → List PV → Option (PV × PV)
  | .lst xs, [.lst ys] => if xs.length + ys.length ≤ 16777216 then some (.non, .lst (xs ++ ys)) else none
  | _, _ => none
theorem m_extend : MutR X RTs rExtendA sExtend := by
  intro H a u c vs ps z c' Q hu hc hr e o
  unfold sExtend at e
  split at e
  · split at e
    · rename_i xs ys h
      cases e
      obtain ⟨ws, rfl, r⟩ := ob_lst hc
      obtain ⟨v, rfl, h1⟩ := rts1 hr
      obtain ⟨b, zs, rfl, h2, r2⟩ := h1.lstR
      exact ⟨a, b, ws, zs, rfl, rfl, hu, h2, by rw [sizeLine_eq, r.length, r2.length]; exact h, o _ _ (fun _ _ => .non) fun H' ex => (r.append r2).ext ex⟩
    · cases e
  · cases e
/-- x[i] = v of a list of ours: the value, then the place -/
def stF (j : Nat) (f fi : Sk → R PV) : Sk → O := fun S => match getO S j with
  | some _ => (f S).toO fun x S1 => (fi S1).toO fun i S2 => (match getO S2 j, i with
    | some (.lst xs), .int k => (match ixN xs.length k with
      | some m => .nx (putO S2 j (.lst (xs.set m x)))
      | none => .stuck)
    | _, _ => .stuck)
  | none => .stuck
theorem vs_st {j : Nat} {f fi : Sk → R PV} {tg e : Expr} (h : PS X (.Assign [tg] e pos) (tAsg (LiftE X.K X.mg W f) (gSub (tVar j) (LiftE X.K X.mg W fi) rSetL))) :
    VS X W (.Assign [tg] e pos) (stF j f fi) := by
  refine ⟨PS.imp h fun D σ H ⟨S, R0, q⟩ => ⟨S, R0, ?_⟩⟩
  unfold stF at q
  cases hj : getO S j with
  | none => rw [hj] at q; exact (show False from q).elim
  | some c0 =>
    rw [hj] at q
    obtain ⟨a0, u0, g1, g2, g3, g4⟩ := getO_rel R0 hj
    dsimp only at q
    cases hf : f S with
    | stuck => rw [hf] at q; exact q
    | exc y S1 => rw [hf] at q; exact fun c d H1 er R1 F1 => q c d σ H1 er R1 F1
    | ok x S1 =>
      rw [hf, R.toO_ok] at q
      intro v H1 rv R1 F1
      refine ⟨_, g1, S1, R1, ?_⟩
      cases hi : fi S1 with
      | stuck => rw [hi] at q; exact q
      | exc y S2 => rw [hi] at q; exact fun c d H2 er R2 F2 => q c d σ H2 er R2 (F1.trans F2)
      | ok i S2 =>
        rw [hi, R.toO_ok] at q
        intro iv H2 ri R2 F2
        split at q
        · rename_i xs k hc
          split at q
          · rename_i m hm
            obtain ⟨a, u, k1, k2, k3, k4⟩ := getO_rel R2 hc
            rw [g1] at k1
            cases k1
            obtain ⟨ws, rfl, r⟩ := ob_lst k3
            cases ri
            refine ⟨a0, ws, k, m, rfl, rfl, k2, by rw [r.length]; exact hm, ?_⟩
            have ex := write_ext (u' := .lst (ws.set m v)) k2 k3
            obtain ⟨R3, F3⟩ := R2.write (u' := .lst (ws.set m v)) (x' := .lst (xs.set m x)) hc g1 k2 k3 ((RepA.set (rv.ext (R1.ext F2)) m r).ext ex)
            exact q σ _ R3 ((F1.trans F2).trans F3)
          · exact (show False from q).elim
        · exact (show False from q).elim
end
end VL

set_option Elab.async false
set_option linter.all false
set_option autoImplicit false
set_option maxRecDepth 100000
set_option maxHeartbeats 4000000
/-! VL5: what is walked, loops, comprehensions. -/
namespace VL
open PySem L2

section
variable {X : Cx} {W : WX} {K : PySem.W.Frag} {mg : Str → Option Value} {S S1 S' : Sk} {σ σ1 σ' : St} {H H0 H1 H' : Hp}
/-- an object stands as it was -/
def Pn (pl : Option (Addr × HO)) (H : Hp) : Prop := match pl with
  | none => True
  | some p => H p.1 = some p.2
/-- the items that an iterator gives, one a turn -/
structure WP (K : PySem.W.Frag) (J : It) (xs : List PV) (H0 : Hp) (pl : Option (Addr × HO)) : Prop where
  goes : ∀ i H, i < xs.length → Ext H0 H → Pn pl H → J.go i H
  stops : ∀ H, Ext H0 H → Pn pl H → J.stop xs.length H
  yields : ∀ i H v H', i < xs.length → Ext H0 H → Pn pl H → J.yld i H v H' → Same H H' ∧ ∃ x, xs[i]? = some x ∧ Rep K H' v x
theorem WP.of {J : It} {n : Nat} {G : Hp → Prop} {Y : Nat → Hp → V → Hp → Prop} {xs : List PV} {pl : Option (Addr × HO)} (w : Walk J n G Y) (hn : n = xs.length) (hG : ∀ H, Ext H0 H → Pn pl H → G H)
    (hY : ∀ i H v H', i < n → Ext H0 H → Pn pl H → Y i H v H' → Same H H' ∧ ∃ x, xs[i]? = some x ∧ Rep K H' v x) : WP K J xs H0 pl := by
  subst hn
  exact ⟨fun i H hi e p => w.goes i H hi (hG H e p), fun H e p => w.stops H (hG H e p), fun i H v H' hi e p y => hY i H v H' hi e p (w.yields i H v H' hi (hG H e p) y)⟩
/-- a slot of ours that is walked over -/
def Lent (S : Sk) (σ : St) (H : Hp) (ld : Option Nat) (pl : Option (Addr × HO)) : Prop := match ld, pl with
  | none, none => True
  | some j, some p => σ[j]? = some (some (V.ref p.1)) ∧ H p.1 = some p.2 ∧ ∃ x, getO S j = some x
  | _, _ => False
def LiftI (K : PySem.W.Frag) (mg : Str → Option Value) (W : WX) (f : Sk → R (List PV × Option Nat)) : TI := fun σ H R => ∃ S, RelS K S σ H ∧ match f S with
  | .stuck => False
  | .ok r S' => ∀ J H' pl, WP K J r.1 H' pl → Lent S' σ H' r.2 pl → RelS K S' σ H' → Frm S σ H S' σ H' → R J H'
  | .exc e S' => ∀ cls d H', ExnRep K mg H' cls d e → RelS K S' σ H' → Frm S σ H S' σ H' → W cls d σ H'
structure EI (X : Cx) (W : WX) (tg iter : Expr) (f : Sk → R (List PV × Option Nat)) : Prop where
  pi : PI X tg iter (LiftI X.K X.mg W f)
theorem PI.imp {tg iter : Expr} {t t' : TI} (h : PI X tg iter t) (i : ∀ σ H Q, t' σ H Q → t σ H Q) : PI X tg iter t' := ⟨fun pins s σ H Q I q => h.run pins s σ H Q I (i σ H Q q)⟩
theorem PI.or {tg iter : Expr} {t t' : TI} (h : PI X tg iter t) (h' : PI X tg iter t') : PI X tg iter (fun σ H Q => t σ H Q ∨ t' σ H Q) := ⟨fun pins s σ H Q I q => q.elim (fun z => h.run pins s σ H Q I z) fun z => h'.run pins s σ H Q I z⟩

/-! ### sources -/
theorem wp_list {a : Addr} {vs : List V} {xs : List PV} {pl : Option (Addr × HO)} (hq : ∀ H, Ext H0 H → Pn pl H → SqL K H a vs) (r : ∀ H, Ext H0 H → RepA K H vs xs) : WP K (Itl K a) xs H0 pl := by
  refine WP.of walk_list (r H0 (Ext.refl H0)).length hq fun i H v H' hi e p y => ?_
  obtain ⟨rfl, hv⟩ := y
  obtain ⟨x, hx, rx⟩ := (r H' e).get hv
  exact ⟨Same.refl _, x, hx, rx⟩
theorem wp_tup {a : Addr} {vs : List V} {xs : List PV} (h : H0 a = some (.tup vs)) (r : RepA K H0 vs xs) : WP K (Itt K a) xs H0 none := by
  refine WP.of walk_tup r.length (fun H e _ => SqT.of (e.tup _ _ h)) fun i H v H' hi e p y => ?_
  obtain ⟨rfl, hv⟩ := y
  obtain ⟨x, hx, rx⟩ := (RepA.ext e r).get hv
  exact ⟨Same.refl _, x, hx, rx⟩
def chrP (z : Str) : List PV := z.cps.toList.map fun c => .str ⟨#[c]⟩
theorem wp_str {z : Str} : WP K (Its z) (chrP z) H0 none := by
  refine WP.of walk_str (by simp [chrP]) (fun _ _ _ => trivial) fun i H v H' hi e p y => ?_
  obtain ⟨rfl, c, hc, rfl⟩ := y
  refine ⟨Same.refl _, .str ⟨#[c]⟩, ?_, .str _⟩
  unfold chrP
  rw [List.getElem?_map, Array.getElem?_toList, hc]
  rfl
def rngP (lo : Int) (n : Nat) : List PV := (List.range n).map fun (i : Nat) => .int (lo + (i : Int))
def rngCP (lo c : Int) (n : Nat) : List PV := (List.range n).map fun (i : Nat) => .int (lo + (i : Int) * c)
theorem wp_range {lo : Int} {n : Nat} : WP K (Itr lo n) (rngP lo n) H0 none := by
  refine WP.of walk_range (by simp [rngP]) (fun _ _ _ => trivial) fun i H v H' hi e p y => ?_
  obtain ⟨rfl, rfl⟩ := y
  refine ⟨Same.refl _, .int (lo + i), ?_, .int _⟩
  unfold rngP
  rw [List.getElem?_map, List.getElem?_range hi]
  rfl
theorem wp_rangeC {lo c : Int} {n : Nat} : WP K (Itc lo c n) (rngCP lo c n) H0 none := by
  refine WP.of walk_rangeC (by simp [rngCP]) (fun _ _ _ => trivial) fun i H v H' hi e p y => ?_
  obtain ⟨rfl, rfl⟩ := y
  refine ⟨Same.refl _, .int (lo + (i : Nat) * c), ?_, .int _⟩
  unfold rngCP
  rw [List.getElem?_map, List.getElem?_range hi]
  rfl
/-- new pairs -/
theorem pair_rep {i : Nat} {v : V} {f g : Nat → Option V} {h k : Nat → Option PV} (y : YPair f g i H v H') (rf : ∀ w, f i = some w → ∃ x, h i = some x ∧ Rep K H w x) (rg : ∀ w, g i = some w → ∃ x, k i = some x ∧ Rep K H w x) : Same H H' ∧ ∃ x y, h i = some x ∧ k i = some y ∧ Rep K H' v (.tup [x, y]) := by
  obtain ⟨T, x, y, rfl, hT, rfl, h1, h2⟩ := y
  have sm := same_upd (u := .tup [x, y]) hT
  obtain ⟨p, hp, rp⟩ := rf x h1
  obtain ⟨q, hq, rq⟩ := rg y h2
  exact ⟨sm, p, q, hp, hq, .tup upd_same (.cons (rp.ext (Ext.of_same sm)) (.cons (rq.ext (Ext.of_same sm)) .nil))⟩
def enumP (xs : List PV) : List PV := xs.zipIdx.map fun p => .tup [.int (p.2 : Nat), p.1]
theorem enumP_length (xs : List PV) : (enumP xs).length = xs.length := by simp [enumP]
theorem enumP_get {xs : List PV} {i : Nat} {x : PV} (h : xs[i]? = some x) : (enumP xs)[i]? = some (.tup [.int (i : Nat), x]) := by
  unfold enumP
  rw [List.getElem?_map, List.getElem?_zipIdx, h]
  simp
theorem wp_enum {a : Addr} {vs : List V} {xs : List PV} {pl : Option (Addr × HO)} (hq : ∀ H, Ext H0 H → Pn pl H → SqL K H a vs) (r : ∀ H, Ext H0 H → RepA K H vs xs) : WP K (Ite K a) (enumP xs) H0 pl := by
  refine WP.of walk_enum ((r H0 (Ext.refl H0)).length.trans (enumP_length xs).symm) hq fun i H v H' hi e p y => ?_
  obtain ⟨sm, x, z, h1, h2, h3⟩ := pair_rep (K := K) (h := fun i => some (.int (i : Nat))) (k := fun i => xs[i]?) y (fun w hw => by cases hw; exact ⟨_, rfl, .int _⟩) fun w hw => (r H e).get hw
  cases h1
  exact ⟨sm, _, enumP_get h2, h3⟩
def zipP (xs ys : List PV) : List PV := (xs.zip ys).map fun p => .tup [p.1, p.2]
theorem zipP_length (xs ys : List PV) : (zipP xs ys).length = min xs.length ys.length := by simp [zipP]
theorem zipP_get {xs ys : List PV} {i : Nat} {x y : PV} (h : xs[i]? = some x) (k : ys[i]? = some y) : (zipP xs ys)[i]? = some (.tup [x, y]) := by
  unfold zipP
  rw [List.getElem?_map, (List.getElem?_zip_eq_some (z := (x, y))).mpr ⟨h, k⟩]
  rfl
theorem wp_zip {a b : Addr} {vs ws : List V} {xs ys : List PV} {pl : Option (Addr × HO)} (hq : ∀ H, Ext H0 H → Pn pl H → SqL K H a vs) (r : ∀ H, Ext H0 H → RepA K H vs xs)
    (hq2 : ∀ H, Ext H0 H → Pn pl H → SqL K H b ws) (r2 : ∀ H, Ext H0 H → RepA K H ws ys) : WP K (Itz K a b) (zipP xs ys) H0 pl := by
  refine WP.of (walk_zip (n := min vs.length ws.length) rfl) (by rw [zipP_length, (r H0 (Ext.refl H0)).length, (r2 H0 (Ext.refl H0)).length]) (fun H e p => ⟨hq H e p, hq2 H e p⟩) fun i H v H' hi e p y => ?_
  obtain ⟨sm, x, z, h1, h2, h3⟩ := pair_rep (K := K) (h := fun i => xs[i]?) (k := fun i => ys[i]?) y (fun w hw => (r H e).get hw) fun w hw => (r2 H e).get hw
  exact ⟨sm, _, zipP_get h1 h2, h3⟩
theorem wp_zipT {a b : Addr} {vs ws : List V} {xs ys : List PV} (h1 : H0 a = some (.tup vs)) (r : RepA K H0 vs xs) (h2 : H0 b = some (.tup ws)) (r2 : RepA K H0 ws ys) : WP K (RZ.ItzT K a b) (zipP xs ys) H0 none := by
  refine ⟨fun i H hi e p => ?_, fun H e p => ?_, fun i H v H' hi e p y => ?_⟩
  · rw [zipP_length, ← r.length, ← r2.length] at hi
    have z1 : i < vs.length := by omega
    have z2 : i < ws.length := by omega
    exact ⟨vs, ws, vs[i], ws[i], SqT.of (e.tup _ _ h1), SqT.of (e.tup _ _ h2), List.getElem?_eq_getElem z1, List.getElem?_eq_getElem z2⟩
  · refine ⟨vs, ws, SqT.of (e.tup _ _ h1), SqT.of (e.tup _ _ h2), ?_⟩
    rw [zipP_length, ← r.length, ← r2.length]
    omega
  · obtain ⟨T, x, z, rfl, hT, rfl, k1, k2⟩ := y
    have sm := same_upd (u := .tup [x, z]) hT
    obtain ⟨p, hp, rp⟩ := (RepA.ext e r).get (k1 _ (SqT.of (e.tup _ _ h1)))
    obtain ⟨q, hq, rq⟩ := (RepA.ext e r2).get (k2 _ (SqT.of (e.tup _ _ h2)))
    exact ⟨sm, _, zipP_get hp hq, .tup upd_same (.cons (rp.ext (Ext.of_same sm)) (.cons (rq.ext (Ext.of_same sm)) .nil))⟩

/-- a list, a tuple, a text by value; a list of ours by its slot -/
def seqI (f : Sk → R OV) : Sk → R (List PV × Option Nat) := fun S => (f S).bind fun o S1 => match o with
  | .v (.lst xs) => .ok (xs, none) S1
  | .v (.tup xs) => .ok (xs, none) S1
  | .v (.scr ns) => .ok (ns.map .int, none) S1
  | .v (.str z) => .ok (chrP z, none) S1
  | .s j => (match getO S1 j with
    | some (.lst xs) => .ok (xs, some j) S1
    | _ => .stuck)
  | _ => .stuck
theorem rep_lstI {v : V} {xs : List PV} (h : Rep K H v (.lst xs)) : ∃ a o vs, v = .ref a ∧ H a = some (.frz o (.lst vs)) ∧ RepA K H vs xs := by
  cases h with
  | lst h r => exact ⟨_, _, _, rfl, h, r⟩
theorem rep_scrI {v : V} {ns : List Int} (h : Rep K H v (.scr ns)) : ∃ a, v = .ref a ∧ FzL K H a (ns.map V.int) := by
  cases h with
  | scr h => exact ⟨_, rfl, h⟩
theorem own_list {j : Nat} {xs : List PV} (R : RelS K S σ H) (h : getO S j = some (.lst xs)) : ∃ a vs, σ[j]? = some (some (V.ref a)) ∧ H a = some (.lst vs) ∧ RepA K H vs xs := by
  obtain ⟨a, u, h1, h2, h3, h4⟩ := getO_rel R h
  obtain ⟨vs, rfl, r⟩ := ob_lst h3
  exact ⟨a, vs, h1, h2, r⟩
theorem sq_pin {a : Addr} {vs : List V} (h : Pn (some (a, HO.lst vs)) H) : SqL K H a vs := SqL.of h
variable {tg e : Expr} {fo : Sk → R OV}
theorem ei_seq (he : EO X W e fo) : EI X W tg e (seqI fo) := by
  refine ⟨PI.imp (PI.or (PI.or (pi_list he.pe) (pi_tup he.pe)) (pi_str he.pe)) fun σ H Q ⟨S, R0, q⟩ => ?_⟩
  have go : ∀ {T : VK}, (match fo S with
      | .stuck => False
      | .ok o S1 => ∀ v H1, OVRel X.K σ H1 o v → RelS X.K S1 σ H1 → Frm S σ H S1 σ H1 → T v H1
      | .exc e S1 => ∀ cls d H1, ExnRep X.K X.mg H1 cls d e → RelS X.K S1 σ H1 → Frm S σ H S1 σ H1 → W cls d σ H1) → LiftO X.K X.mg W fo σ H T := fun {T} z => ⟨S, R0, by
    cases hf : fo S with
    | stuck => rw [hf] at z; exact z
    | exc y S1 => rw [hf] at z; exact z
    | ok o S1 => rw [hf] at z; exact z⟩
  unfold seqI at q
  cases hf : fo S with
  | stuck => rw [hf] at q; exact q.elim
  | exc y S1 =>
    rw [hf] at q
    refine .inl (.inl (go ?_))
    rw [hf]
    exact q
  | ok o S1 =>
    rw [hf] at q go
    dsimp only at go
    rw [R.bind_ok] at q
    cases o with
    | s j =>
      refine .inl (.inl (go fun v H1 ov R1 F1 => ?_))
      dsimp only at q
      cases hg : getO S1 j with
      | none => rw [hg] at q; exact q.elim
      | some c =>
        rw [hg] at q
        cases c <;> first | exact q.elim | skip
        rename_i xs
        obtain ⟨a, vs, h1, h2, r⟩ := own_list R1 hg
        have h' : σ[j]? = some (some v) := ov
        rw [h'] at h1
        cases h1
        exact ⟨a, rfl, ⟨vs, SqL.of h2⟩, q _ H1 (some (a, .lst vs)) (wp_list (fun H e p => sq_pin p) fun H e => RepA.ext e r) ⟨h', h2, _, hg⟩ R1 F1⟩
    | v x =>
      cases x <;> first | exact q.elim | skip
      · refine .inr (go fun v H1 ov R1 F1 => ?_)
        cases (show Rep X.K H1 v (.str _) from ov)
        exact ⟨_, rfl, q _ H1 none wp_str trivial R1 F1⟩
      · refine .inl (.inr (go fun v H1 ov R1 F1 => ?_))
        obtain ⟨a, vs, rfl, h1, r⟩ := RT.tup (.inl (show Rep X.K H1 v (.tup _) from ov))
        exact ⟨a, rfl, ⟨vs, SqT.of h1⟩, q _ H1 none (wp_tup h1 r) trivial R1 F1⟩
      · refine .inl (.inl (go fun v H1 ov R1 F1 => ?_))
        obtain ⟨a, o, vs, rfl, h1, r⟩ := rep_lstI (show Rep X.K H1 v (.lst _) from ov)
        exact ⟨a, rfl, ⟨vs, .inl (.inr ⟨o, h1⟩)⟩, q _ H1 none (wp_list (fun H e p => .inl (.inr ⟨o, e.frz _ _ _ h1⟩)) fun H e => RepA.ext e r) trivial R1 F1⟩
      · refine .inl (.inl (go fun v H1 ov R1 F1 => ?_))
        obtain ⟨a, rfl, h1⟩ := rep_scrI (show Rep X.K H1 v (.scr _) from ov)
        exact ⟨a, rfl, ⟨_, h1.sq⟩, q _ H1 none (wp_list (fun H e p => (e.fzL h1).sq) fun H e => RepA.of_ints _) trivial R1 F1⟩
/-- arguments as values, then what is walked -/
def argI (sem : List PV → Option (List PV)) (f : Sk → R (List OV)) : Sk → R (List PV × Option Nat) := fun S => (f S).bind fun os S1 => match valsOf os with
  | some xs => (match sem xs with
    | some ys => .ok (ys, none) S1
    | none => .stuck)
  | none => .stuck
theorem argI_lift {sem : List PV → Option (List PV)} {fa : Sk → R (List OV)} {r : List V → Hp → (It → Hp → Prop) → Prop} {Q : It → Hp → Prop}
    (hr : ∀ (H : Hp) (vs : List V) (xs ys : List PV), RepA K H vs xs → sem xs = some ys → (∀ J, WP K J ys H none → Q J H) → r vs H Q) (h : LiftI K mg W (argI sem fa) σ H Q) : LiftA K mg W fa σ H fun vs H1 => r vs H1 Q := by
  obtain ⟨S, R0, q⟩ := h
  refine ⟨S, R0, ?_⟩
  unfold argI at q
  cases hf : fa S with
  | stuck => rw [hf] at q; exact q
  | exc y S1 => rw [hf] at q; exact q
  | ok os S1 =>
    rw [hf, R.bind_ok] at q
    intro vs H1 ov R1 F1
    cases hv : valsOf os with
    | none => rw [hv] at q; exact q.elim
    | some xs =>
      rw [hv] at q
      dsimp only at q
      cases hs : sem xs with
      | none => rw [hs] at q; exact q.elim
      | some ys =>
        rw [hs] at q
        exact hr H1 vs xs ys (valsOf_rep ov hv) hs fun J w => q J H1 none w trivial R1 F1
variable {fa : Sk → R (List OV)} {p pos : Pos}
theorem repA2 {vs : List V} {x y : PV} (r : RepA K H vs [x, y]) : ∃ v w, vs = [v, w] ∧ Rep K H v x ∧ Rep K H w y := by
  cases r with
  | cons a b =>
    obtain ⟨w, rfl, c⟩ := repA1 b
    exact ⟨_, w, rfl, a, c⟩
def sRng1 : List PV → Option (List PV)
  | [.int j] => if -(2 ^ 62) ≤ j ∧ j < 2 ^ 62 then some (rngP 0 j.toNat) else none
  | _ => none
def sRng2 : List PV → Option (List PV)
  | [.int i, .int j] => if -(2 ^ 62) ≤ i ∧ i < 2 ^ 62 ∧ -(2 ^ 62) ≤ j ∧ j < 2 ^ 62 then some (rngP i (j - i).toNat) else none
  | _ => none
theorem ei_range1 {a : Expr} (hg : Gl X "range") (hm : X.mg "range" = none) (ha : EA X W [a] fa) (hs : starEach [a] X.env = [(false, eval a X.env)]) : EI X W tg (.Call (.Name "range" p) [a] [] pos) (argI sRng1 fa) := by
  refine ⟨PI.imp (pi_range1 hg hm ha.pa hs) fun σ H Q h => argI_lift (r := fun vs H1 Q => ∃ j : Int, vs = [.int j] ∧ -(2 ^ 62) ≤ j ∧ j < 2 ^ 62 ∧ Q (Itr 0 j.toNat) H1) (fun H vs xs ys r e o => ?_) h⟩
  unfold sRng1 at e
  split at e
  · split at e
    · rename_i j hj
      cases e
      obtain ⟨v, rfl, r1⟩ := repA1 r
      cases r1
      exact ⟨j, rfl, hj.1, hj.2, o _ wp_range⟩
    · cases e
  · cases e
theorem ei_range2 {a b : Expr} (hg : Gl X "range") (hm : X.mg "range" = none) (ha : EA X W [a, b] fa) (hs : starEach [a, b] X.env = [(false, eval a X.env), (false, eval b X.env)]) (hs2 : starEach [b] X.env = [(false, eval b X.env)]) : EI X W tg (.Call (.Name "range" p) [a, b] [] pos) (argI sRng2 fa) := by
  refine ⟨PI.imp (pi_range2 hg hm ha.pa hs hs2) fun σ H Q h => argI_lift (r := fun vs H1 Q => ∃ i j : Int, vs = [.int i, .int j] ∧ (-(2 ^ 62) ≤ i ∧ i < 2 ^ 62 ∧ -(2 ^ 62) ≤ j ∧ j < 2 ^ 62) ∧ Q (Itr i (j - i).toNat) H1) (fun H vs xs ys r e o => ?_) h⟩
  unfold sRng2 at e
  split at e
  · split at e
    · rename_i i j hj
      cases e
      obtain ⟨v, w, rfl, r1, r2⟩ := repA2 r
      cases r1
      cases r2
      exact ⟨i, j, rfl, hj, o _ wp_range⟩
    · cases e
  · cases e
end
end VL

set_option Elab.async false
set_option linter.all false
set_option autoImplicit false
set_option maxRecDepth 100000
set_option maxHeartbeats 4000000
/-! VL6: loops. -/
namespace VL
open PySem L2

section
variable {X : Cx} {W : WX} {K : PySem.W.Frag} {mg : Str → Option Value} {S S1 S' : Sk} {σ σ1 σ' : St} {H H0 H1 H' : Hp}
abbrev Ld := Option (Nat × Sl)
def mkLd (S : Sk) : Option Nat → Ld
  | none => none
  | some j => (S[j]?).map fun s => (j, s)
def hideL : Ld → Sk → Sk
  | none, S => S
  | some p, S => S.set p.1 .hid
def giveL : Ld → Sk → Option Sk
  | none, S => some S
  | some p, S => match S[p.1]? with
    | some .hid => some (S.set p.1 p.2)
    | _ => none
def O.give (ld : Ld) : O → O
  | .stuck => .stuck
  | .nx S => (match giveL ld S with
    | some S' => .nx S'
    | none => .stuck)
  | .rt r S => (match giveL ld S with
    | some S' => .rt r S'
    | none => .stuck)
  | .bk S => (match giveL ld S with
    | some S' => .bk S'
    | none => .stuck)
  | .ct S => (match giveL ld S with
    | some S' => .ct S'
    | none => .stuck)
  | .exc e S => (match giveL ld S with
    | some S' => .exc e S'
    | none => .stuck)
theorem getO_slot {j : Nat} {x : PV} (h : getO S j = some x) : S[j]? = some (.own x) ∨ S[j]? = some (.io x) := by
  unfold getO at h
  split at h
  · rename_i y hy; cases h; exact .inl hy
  · rename_i y hy; cases h; exact .inr hy
  · cases h
/-- a lent slot, hidden: how things stand -/
structure Hid (K : PySem.W.Frag) (S : Sk) (σ : St) (H : Hp) (ld : Ld) (pl : Option (Addr × HO)) : Prop where
  rel : RelS K (hideL ld S) σ H
  off : ∀ p, pl = some p → ¬ Owns (hideL ld S) σ p.1
  frm : Frm S σ H (hideL ld S) σ H ∨ ∃ j s, ld = some (j, s)
  back : ∀ S' σ' H' S'', RelS K S' σ' H' → Frm (hideL ld S) σ H S' σ' H' → giveL ld S' = some S'' → RelS K S'' σ' H' ∧ Frm S σ H S'' σ' H' ∧ ∀ b, Owns S'' σ' b → Owns S' σ' b ∨ ∃ o, H b = some o ∧ ¬ Owns (hideL ld S) σ b
  sub : ∀ b, Owns (hideL ld S) σ b → Owns S σ b
theorem hid_of (R : RelS K S σ H) {ld : Option Nat} {pl : Option (Addr × HO)} (L : Lent S σ H ld pl) : Hid K S σ H (mkLd S ld) pl ∧ Pn pl H := by
  cases ld with
  | none =>
    cases pl with
    | some p => exact (show False from L).elim
    | none => exact ⟨⟨R, (fun p e => by cases e), .inl .refl, fun S' σ' H' S'' R' F' e => by cases e; exact ⟨R', F', fun b h => .inl h⟩, fun b h => h⟩, trivial⟩
  | some j =>
    cases pl with
    | none => exact (show False from L).elim
    | some p =>
      obtain ⟨a, u⟩ := p
      obtain ⟨h1, h2, x, hx⟩ := (show σ[j]? = some (some (V.ref a)) ∧ H a = some u ∧ ∃ x, getO S j = some x from L)
      refine ⟨?_, h2⟩
      obtain ⟨a', u', k1, k2, k3, k4⟩ := getO_rel R hx
      rw [h1] at k1; cases k1
      rw [h2] at k2; cases k2
      have key : ∀ s, S[j]? = some s → ownd s = true → (∀ (σ' : St) (H' : Hp), σ'[j]? = some (some (V.ref a)) → H' a = some u → RepOb K H' u x → SlRel K H' s σ'[j]?) → Hid K S σ H (some (j, s)) (some (a, u)) := by
        intro s hs os sr
        have sub : ∀ b, Owns (S.set j .hid) σ b → Owns S σ b := fun b ⟨k, t, t1, t2, t3⟩ => by
          rcases get_set t1 with ⟨rfl, rfl⟩ | ⟨ne, t1⟩
          · cases t2
          · exact ⟨k, t, t1, t2, t3⟩
        have rel : RelS K (S.set j .hid) σ H := by
          refine ⟨by rw [List.length_set]; exact R.len, fun k t h => ?_, fun k l t t' b e1 e2 o1 o2 g1 g2 => ?_⟩
          · rcases get_set h with ⟨rfl, rfl⟩ | ⟨ne, h⟩
            · trivial
            · exact R.sl k t h
          · rcases get_set e1 with ⟨rfl, rfl⟩ | ⟨n1, e1⟩
            · cases o1
            · rcases get_set e2 with ⟨rfl, rfl⟩ | ⟨n2, e2⟩
              · cases o2
              · exact R.dj k l t t' b e1 e2 o1 o2 g1 g2
        have off : ¬ Owns (S.set j .hid) σ a := fun ⟨k, t, t1, t2, t3⟩ => by
          rcases get_set t1 with ⟨rfl, rfl⟩ | ⟨ne, t1⟩
          · cases t2
          · exact ne (R.dj j k s t a hs t1 os t2 h1 t3)
        refine ⟨rel, fun p e => by cases e; exact off, .inr ⟨j, s, rfl⟩, fun S' σ' H' S'' R' F' e => ?_, sub⟩
        have e' : (match S'[j]? with
          | some .hid => some (S'.set j s)
          | _ => none) = some S'' := e
        split at e'
        · rename_i hj
          cases e'
          obtain ⟨_, e1⟩ := F'.io j .hid hj rfl
          rw [h1] at e1
          obtain ⟨e2, e3⟩ := F'.keep a u h2 off
          refine ⟨⟨by rw [List.length_set]; exact R'.len, fun k t h => ?_, fun k l t t' b g1 g2 o1 o2 w1 w2 => ?_⟩, ⟨fun b o hb nb => ?_, fun k t h pn => ?_⟩, fun b ow => ?_⟩
          · rcases get_set h with ⟨rfl, rfl⟩ | ⟨ne, h⟩
            · exact sr σ' H' e1 e2 (k3.ext (rel.ext F'))
            · exact R'.sl k t h
          · rcases get_set g1 with ⟨rfl, rfl⟩ | ⟨n1, q1⟩
            · rcases get_set g2 with ⟨rfl, rfl⟩ | ⟨n2, q2⟩
              · rfl
              · rw [e1] at w1; cases w1
                exact absurd ⟨l, t', q2, o2, w2⟩ e3
            · rcases get_set g2 with ⟨rfl, rfl⟩ | ⟨n2, q2⟩
              · rw [e1] at w2; cases w2
                exact absurd ⟨k, t, q1, o1, w1⟩ e3
              · exact R'.dj k l t t' b q1 q2 o1 o2 w1 w2
          · obtain ⟨q1, q2⟩ := F'.keep b o hb fun w => nb (sub b w)
            refine ⟨q1, fun ⟨k, t, t1, t2, t3⟩ => ?_⟩
            rcases get_set t1 with ⟨rfl, rfl⟩ | ⟨ne, t1⟩
            · rw [e1] at t3; cases t3
              exact nb k4
            · exact q2 ⟨k, t, t1, t2, t3⟩
          · rcases get_set h with ⟨rfl, rfl⟩ | ⟨ne, h⟩
            · exact ⟨⟨_, hs, pn⟩, e1.trans h1.symm⟩
            · obtain ⟨⟨y, y1, y2⟩, y3⟩ := F'.io k t h pn
              rcases get_set y1 with ⟨rfl, rfl⟩ | ⟨ne', y1⟩
              · exact absurd rfl ne
              · exact ⟨⟨y, y1, y2⟩, y3⟩
          · obtain ⟨k, t, t1, t2, t3⟩ := ow
            rcases get_set t1 with ⟨rfl, rfl⟩ | ⟨ne, t1⟩
            · rw [e1] at t3; cases t3
              exact .inr ⟨u, h2, off⟩
            · exact .inl ⟨k, t, t1, t2, t3⟩
        · cases e'
      have hm : ∀ s, S[j]? = some s → mkLd S (some j) = some (j, s) := fun s hs => by simp only [mkLd, hs, Option.map_some]
      rcases getO_slot hx with hs | hs
      · rw [hm _ hs]
        exact key _ hs rfl fun σ' H' z1 z2 z3 => ⟨a, u, z1, z2, z3⟩
      · rw [hm _ hs]
        exact key _ hs rfl fun σ' H' z1 z2 z3 => ⟨a, u, z1, z2, z3⟩
theorem give_post {ld : Ld} {pl : Option (Addr × HO)} {r : O} {D : Ends} (h : Hid K S σ H ld pl) (q : PostS K mg W S σ H (r.give ld) D) : PostS K mg W (hideL ld S) σ H r D := by
  cases r with
  | stuck => exact q
  | nx S' =>
    dsimp only [O.give] at q
    intro σ' H' R' F'
    cases hg : giveL ld S' with
    | none => rw [hg] at q; exact (show False from q).elim
    | some S'' =>
      rw [hg] at q
      obtain ⟨a, b, c⟩ := h.back S' σ' H' S'' R' F' hg
      exact q σ' H' a b
  | bk S' =>
    dsimp only [O.give] at q
    intro σ' H' R' F'
    cases hg : giveL ld S' with
    | none => rw [hg] at q; exact (show False from q).elim
    | some S'' =>
      rw [hg] at q
      obtain ⟨a, b, c⟩ := h.back S' σ' H' S'' R' F' hg
      exact q σ' H' a b
  | ct S' =>
    dsimp only [O.give] at q
    intro σ' H' R' F'
    cases hg : giveL ld S' with
    | none => rw [hg] at q; exact (show False from q).elim
    | some S'' =>
      rw [hg] at q
      obtain ⟨a, b, c⟩ := h.back S' σ' H' S'' R' F' hg
      exact q σ' H' a b
  | exc e S' =>
    dsimp only [O.give] at q
    intro cls d σ' H' er R' F'
    cases hg : giveL ld S' with
    | none => rw [hg] at q; exact (show False from q).elim
    | some S'' =>
      rw [hg] at q
      obtain ⟨a, b, c⟩ := h.back S' σ' H' S'' R' F' hg
      exact q cls d σ' H' er a b
  | rt r S' =>
    dsimp only [O.give] at q
    cases r with
    | v x =>
      intro v σ' H' rv R' F'
      cases hg : giveL ld S' with
      | none => rw [hg] at q; exact (show False from q).elim
      | some S'' =>
        rw [hg] at q
        obtain ⟨a, b, c⟩ := h.back S' σ' H' S'' R' F' hg
        exact q v σ' H' rv a b
    | l x =>
      intro p u σ' H' h1 h2 h3 h4 R' F'
      cases hg : giveL ld S' with
      | none => rw [hg] at q; exact (show False from q).elim
      | some S'' =>
        rw [hg] at q
        obtain ⟨a, b, c⟩ := h.back S' σ' H' S'' R' F' hg
        refine q p u σ' H' h1 h2 (fun w => ?_) (fun o ho => h.sub p (h4 o ho)) a b
        rcases c p w with w | ⟨o, ho, no⟩
        · exact h3 w
        · exact no (h4 o ho)

/-! ### for -/
def loopF (g : PV → Sk → Option Sk) (F : Sk → O) : List PV → Sk → O
  | [], S => .nx S
  | x :: xs, S => match g x S with
    | none => .stuck
    | some S1 => match F S1 with
      | .nx S2 => loopF g F xs S2
      | .ct S2 => loopF g F xs S2
      | .bk S2 => .nx S2
      | .rt r S2 => .rt r S2
      | .exc e S2 => .exc e S2
      | .stuck => .stuck
def forF (f : Sk → R (List PV × Option Nat)) (g : PV → Sk → Option Sk) (F : Sk → O) : Sk → O := fun S => (f S).toO fun r S1 => (loopF g F r.1 (hideL (mkLd S1 r.2) S1)).give (mkLd S1 r.2)
variable {tg iter : Expr} {ts : List Nat} {f : Sk → R (List PV × Option Nat)} {g : PV → Sk → Option Sk} {F : Sk → O} {body : List Stmt} {pos : Pos}
theorem loop_ok {J : It} {xs : List PV} {pl : Option (Addr × HO)} (w : WP K J xs H pl) (R0 : RelS K S σ H) (hp : Pn pl H) (off : ∀ p, pl = some p → ¬ Owns S σ p.1) {D : Ends} (q : PostS K mg W S σ H (loopF g F xs S) D) :
    ∃ V : Nat → Nat → St → Hp → Prop, (∃ m, V 0 m σ H) ∧ ∀ i m σ H, V i m σ H →
      (J.stop i H ∧ D.nx σ H) ∨ (J.go i H ∧ ∃ N : St → Hp → Prop, (∀ σ' H', N σ' H' → ∃ m', m' < m ∧ V (i + 1) m' σ' H') ∧ ∀ x H', J.yld i H x H' → LiftG K ts g x σ H' fun σ2 H2 => LiftS K mg W F { D with nx := N, ct := N, bk := D.nx } σ2 H2) := by
  refine ⟨fun i m σc Hc => m = xs.length - i ∧ i ≤ xs.length ∧ ∃ Sc, RelS K Sc σc Hc ∧ Frm S σ H Sc σc Hc ∧ PostS K mg W Sc σc Hc (loopF g F (xs.drop i) Sc) D, ⟨xs.length, by simp, Nat.zero_le _, S, R0, .refl, q⟩, ?_⟩
  rintro i m σc Hc ⟨rfl, hi, Sc, Rc, Fc, qc⟩
  have ex := R0.ext Fc
  have pn : Pn pl Hc := by
    cases pl with
    | none => trivial
    | some p => exact (Fc.keep p.1 p.2 hp (off p rfl)).1
  by_cases hlt : i < xs.length
  · refine .inr ⟨w.goes i Hc hlt ex pn, fun σ' H' => xs.length - (i + 1) = xs.length - (i + 1) ∧ i + 1 ≤ xs.length ∧ ∃ Sc, RelS K Sc σ' H' ∧ Frm S σ H Sc σ' H' ∧ PostS K mg W Sc σ' H' (loopF g F (xs.drop (i + 1)) Sc) D, fun σ' H' h => ⟨xs.length - (i + 1), by omega, h⟩, fun v H' y => ?_⟩
    obtain ⟨sm, x, hx, rx⟩ := w.yields i Hc v H' hlt ex pn y
    have hd : xs.drop i = x :: xs.drop (i + 1) := by
      rw [List.drop_eq_getElem_cons hlt]
      congr 1
      rw [List.getElem?_eq_getElem hlt] at hx
      exact Option.some.inj hx
    rw [hd] at qc
    have qc' : PostS K mg W Sc σc Hc (match g x Sc with
      | none => O.stuck
      | some S1 => match F S1 with
        | .nx S2 => loopF g F (xs.drop (i + 1)) S2
        | .ct S2 => loopF g F (xs.drop (i + 1)) S2
        | .bk S2 => .nx S2
        | .rt r S2 => .rt r S2
        | .exc e S2 => .exc e S2
        | .stuck => .stuck) D := qc
    refine ⟨Sc, x, Rc.same sm, rx, ?_⟩
    cases hg : g x Sc with
    | none => rw [hg] at qc'; exact qc'
    | some S2 =>
      rw [hg] at qc'
      dsimp only at qc'
      intro σ2 H2 R2 F2 _
      refine ⟨S2, R2, ?_⟩
      have F12 := (Frm.same (S := Sc) (σ := σc) sm).trans F2
      cases hF : F S2 with
      | stuck => rw [hF] at qc'; exact qc'
      | nx S3 => rw [hF] at qc'; exact fun σ3 H3 R3 F3 => ⟨rfl, hlt, S3, R3, Fc.trans (F12.trans F3), PostS.step qc' (F12.trans F3)⟩
      | ct S3 => rw [hF] at qc'; exact fun σ3 H3 R3 F3 => ⟨rfl, hlt, S3, R3, Fc.trans (F12.trans F3), PostS.step qc' (F12.trans F3)⟩
      | bk S3 => rw [hF] at qc'; exact fun σ3 H3 R3 F3 => qc' σ3 H3 R3 (F12.trans F3)
      | exc e S3 => rw [hF] at qc'; exact PostS.step (r := .exc e S3) qc' F12
      | rt r S3 => rw [hF] at qc'; cases r <;> exact PostS.step (r := .rt _ S3) qc' F12
  · have e : i = xs.length := by omega
    subst e
    rw [List.drop_length] at qc
    exact .inl ⟨w.stops Hc ex pn, qc σc Hc Rc .refl⟩
theorem vs_for (hp : PassesOwn (model X.prog X.w) X.A X.env X.xe) (hc : X.calm = true) (hi : EI X W tg iter f) (hg : EG X tg ts g) (hb : VSs X W body F) (hs : ∀ x, foldedSetIterable iter X.env x = pure x) : VS X W (.For tg iter body [] pos) (forF f g F) := by
  refine ⟨PS.imp (ps_for hp hc hi.pi hg.pg hb.ps hs) fun D σ H ⟨S, R0, q⟩ => ⟨S, R0, ?_⟩⟩
  unfold forF at q
  cases hf : f S with
  | stuck => rw [hf] at q; exact q
  | exc y S1 => rw [hf] at q; exact fun c d H1 er R1 F1 => q c d σ H1 er R1 F1
  | ok r S1 =>
    rw [hf, R.toO_ok] at q
    intro J H1 pl w L R1 F1
    obtain ⟨hd, pn⟩ := hid_of R1 L
    exact loop_ok w hd.rel pn hd.off (give_post hd (PostS.step q F1))

/-! ### while -/
def whileN (c : Sk → R Bool) (F : Sk → O) : Nat → Sk → O
  | 0, _ => .stuck
  | n + 1, S => (c S).toO fun b S1 => if b = true then (match F S1 with
      | .nx S2 => whileN c F n S2
      | .ct S2 => whileN c F n S2
      | .bk S2 => .nx S2
      | .rt r S2 => .rt r S2
      | .exc e S2 => .exc e S2
      | .stuck => .stuck) else .nx S1
theorem whileN_up {c : Sk → R Bool} {F : Sk → O} : ∀ (n : Nat) (S : Sk), whileN c F n S ≠ .stuck → whileN c F (n + 1) S = whileN c F n S := by
  intro n
  induction n with
  | zero => intro S h; exact absurd rfl h
  | succ n ih =>
    intro S h
    unfold whileN at h ⊢
    cases hc : c S with
    | stuck => rfl
    | exc e S1 => rfl
    | ok b S1 =>
      rw [hc] at h
      simp only [R.toO_ok] at h ⊢
      cases b with
      | false => rfl
      | true =>
        simp only [if_true] at h ⊢
        cases hF : F S1 with
        | nx S2 => rw [hF] at h; exact ih S2 h
        | ct S2 => rw [hF] at h; exact ih S2 h
        | bk S2 => rfl
        | rt r S2 => rfl
        | exc e S2 => rfl
        | stuck => rfl
theorem whileN_le {c : Sk → R Bool} {F : Sk → O} {n m : Nat} {S : Sk} (h : whileN c F n S ≠ .stuck) (hm : n ≤ m) : whileN c F m S = whileN c F n S := by
  induction m with
  | zero => rw [Nat.le_zero.mp hm]
  | succ m ih =>
    by_cases e : n = m + 1
    · rw [e]
    · have := ih (by omega)
      rw [whileN_up m S (by rw [this]; exact h), this]
open Classical in
/-- as often as it takes -/
noncomputable def whileF (c : Sk → R Bool) (F : Sk → O) : Sk → O := fun S => if h : ∃ n, whileN c F n S ≠ .stuck then whileN c F (Classical.choose h) S else .stuck
theorem whileF_of {c : Sk → R Bool} {F : Sk → O} {n : Nat} {S : Sk} (h : whileN c F n S ≠ .stuck) : whileF c F S = whileN c F n S := by
  have ex : ∃ n, whileN c F n S ≠ .stuck := ⟨n, h⟩
  unfold whileF
  rw [dif_pos ex]
  have h2 := Classical.choose_spec ex
  rcases Nat.le_total n (Classical.choose ex) with l | l
  · exact whileN_le h l
  · exact (whileN_le h2 l).symm
theorem whileF_eq (c : Sk → R Bool) (F : Sk → O) (S : Sk) : whileF c F S = (c S).toO fun b S1 => if b = true then (match F S1 with
      | .nx S2 => whileF c F S2
      | .ct S2 => whileF c F S2
      | .bk S2 => .nx S2
      | .rt r S2 => .rt r S2
      | .exc e S2 => .exc e S2
      | .stuck => .stuck) else .nx S1 := by
  have one : ∀ (S2 : Sk), (∀ n, whileN c F n S2 = .stuck) → whileF c F S2 = .stuck := fun S2 h => by
    unfold whileF
    rw [dif_neg (fun ⟨n, hn⟩ => hn (h n))]
  by_cases ex : ∃ n, whileN c F n S ≠ .stuck
  · obtain ⟨n, hn⟩ := ex
    rw [whileF_of hn]
    cases n with
    | zero => exact absurd rfl hn
    | succ n =>
      unfold whileN at hn ⊢
      cases hc : c S with
      | stuck => rfl
      | exc e S1 => rfl
      | ok b S1 =>
        rw [hc] at hn
        simp only [R.toO_ok] at hn ⊢
        cases b with
        | false => rfl
        | true =>
          simp only [if_true] at hn ⊢
          cases hF : F S1 with
          | nx S2 => rw [hF] at hn; exact (whileF_of hn).symm
          | ct S2 => rw [hF] at hn; exact (whileF_of hn).symm
          | bk S2 => rfl
          | rt r S2 => rfl
          | exc e S2 => rfl
          | stuck => rfl
  · have all : ∀ n, whileN c F n S = .stuck := fun n => Classical.byContradiction fun h => ex ⟨n, h⟩
    rw [one S all]
    have st : ∀ n, whileN c F (n + 1) S = .stuck := fun n => all (n + 1)
    unfold whileN at st
    cases hc : c S with
    | stuck => rfl
    | exc e S1 => have := st 0; rw [hc] at this; cases this
    | ok b S1 =>
      rw [hc] at st
      simp only [R.toO_ok] at st ⊢
      cases b with
      | false => have := st 0; cases this
      | true =>
        simp only [if_true] at st ⊢
        cases hF : F S1 with
        | nx S2 => rw [hF] at st; exact (one S2 st).symm
        | ct S2 => rw [hF] at st; exact (one S2 st).symm
        | bk S2 => rw [hF] at st; have := st 0; cases this
        | rt r S2 => rw [hF] at st; have := st 0; cases this
        | exc e S2 => rw [hF] at st; have := st 0; cases this
        | stuck => rfl
theorem vs_while {c : Expr} {gc : Sk → R Bool} (hp : PassesOwn (model X.prog X.w) X.A X.env X.xe) (hc : ET X W c gc) (hb : VSs X W body F) : VS X W (.While c body [] pos) (whileF gc F) := by
  refine ⟨PS.imp (ps_while hp hc.pt hb.ps) fun D σ H ⟨S, R0, q⟩ => ?_⟩
  have ne : ∃ n, whileN gc F n S ≠ .stuck := by
    refine Classical.byContradiction fun h => ?_
    unfold whileF at q
    rw [dif_neg h] at q
    exact q
  obtain ⟨n, hn⟩ := ne
  rw [whileF_of hn] at q
  refine ⟨fun m σc Hc => ∃ Sc, RelS X.K Sc σc Hc ∧ PostS X.K X.mg W Sc σc Hc (whileN gc F m Sc) D, ⟨n, S, R0, q⟩, ?_⟩
  rintro m σc Hc ⟨Sc, Rc, qc⟩
  refine ⟨Sc, Rc, ?_⟩
  cases m with
  | zero => exact (show False from qc).elim
  | succ m =>
    unfold whileN at qc
    cases hcc : gc Sc with
    | stuck => rw [hcc] at qc; exact qc
    | exc e S1 => rw [hcc] at qc; exact fun c d H1 er R1 F1 => qc c d σc H1 er R1 F1
    | ok b S1 =>
      rw [hcc, R.toO_ok] at qc
      intro H1 R1 F1
      cases b with
      | false => exact qc σc H1 R1 F1
      | true =>
        rw [if_pos rfl] at qc ⊢
        refine ⟨fun σ' H' => ∃ Sc, RelS X.K Sc σ' H' ∧ PostS X.K X.mg W Sc σ' H' (whileN gc F m Sc) D, fun σ' H' h => ⟨m, Nat.lt_succ_self m, h⟩, S1, R1, ?_⟩
        cases hF : F S1 with
        | stuck => rw [hF] at qc; exact qc
        | nx S2 => rw [hF] at qc; exact fun σ2 H2 R2 F2 => ⟨S2, R2, PostS.step qc (F1.trans F2)⟩
        | ct S2 => rw [hF] at qc; exact fun σ2 H2 R2 F2 => ⟨S2, R2, PostS.step qc (F1.trans F2)⟩
        | bk S2 => rw [hF] at qc; exact fun σ2 H2 R2 F2 => qc σ2 H2 R2 (F1.trans F2)
        | exc e S2 => rw [hF] at qc; exact PostS.step (r := .exc e S2) qc F1
        | rt r S2 => rw [hF] at qc; cases r <;> exact PostS.step (r := .rt _ S2) qc F1
end
end VL

set_option Elab.async false
set_option linter.all false
set_option autoImplicit false
set_option maxRecDepth 100000
set_option maxHeartbeats 4000000
/-! VL7: comprehensions; an object of ours is shared. -/
namespace VL
open PySem L2

section
variable {X : Cx} {W : WX} {K : PySem.W.Frag} {mg : Str → Option Value} {S S0 S1 S' : Sk} {σ σ1 σ' : St} {H H0 H1 H' : Hp}
def wipeS (S : Sk) : List Nat → Sk
  | [] => S
  | v :: vs => wipeS (S.set v .no) vs
def keepVal (S0 : Sk) (v : Nat) : Sl := match S0[v]? with
  | some (.val x) => .val x
  | _ => .no
def back (S0 S : Sk) : List Nat → Sk
  | [] => S
  | v :: vs => back S0 (S.set v (keepVal S0 v)) vs
theorem set_get {α : Type} (l : List α) (i j : Nat) (x : α) : (l.set i x)[j]? = if i = j then (l[j]?).map fun _ => x else l[j]? := by
  rw [List.getElem?_set]
  split
  · rename_i e
    subst e
    split
    · rename_i h; rw [List.getElem?_eq_getElem h]; rfl
    · rename_i h; rw [List.getElem?_eq_none (by omega)]; rfl
  · rfl
theorem wipeS_get (S : Sk) (vs : List Nat) (i : Nat) : (wipeS S vs)[i]? = if i ∈ vs then (S[i]?).map (fun _ => Sl.no) else S[i]? := by
  induction vs generalizing S with
  | nil => simp [wipeS]
  | cons v vs ih =>
    unfold wipeS
    rw [ih, set_get]
    by_cases e : v = i
    · subst e
      by_cases h : v ∈ vs <;> cases S[v]? <;> simp [h]
    · have e' : ¬ i = v := fun z => e z.symm
      by_cases h : i ∈ vs <;> simp [h, e, e']
theorem back_get (S0 S : Sk) (vs : List Nat) (i : Nat) : (back S0 S vs)[i]? = if i ∈ vs then (S[i]?).map (fun _ => keepVal S0 i) else S[i]? := by
  induction vs generalizing S with
  | nil => simp [back]
  | cons v vs ih =>
    unfold back
    rw [ih, set_get]
    by_cases e : v = i
    · subst e
      by_cases h : v ∈ vs <;> cases S[v]? <;> simp [h]
    · have e' : ¬ i = v := fun z => e z.symm
      by_cases h : i ∈ vs <;> simp [h, e, e']
theorem wipe_get (σ : St) (vs : List Nat) (i : Nat) : (wipe σ vs)[i]? = if i ∈ vs then (σ[i]?).map (fun _ => none) else σ[i]? := by
  induction vs with
  | nil => simp [wipe]
  | cons v vs ih =>
    unfold wipe
    rw [set_get, ih]
    by_cases e : v = i
    · subst e
      by_cases h : v ∈ vs <;> cases σ[v]? <;> simp [h]
    · have e' : ¬ i = v := fun z => e z.symm
      by_cases h : i ∈ vs <;> simp [h, e, e']
theorem wipeS_length (S : Sk) : ∀ vs : List Nat, (wipeS S vs).length = S.length
  | [] => rfl
  | v :: vs => by unfold wipeS; rw [wipeS_length (S.set v .no) vs, List.length_set]
theorem back_length (S0 S : Sk) : ∀ vs : List Nat, (back S0 S vs).length = S.length
  | [] => rfl
  | v :: vs => by unfold back; rw [back_length S0 (S.set v (keepVal S0 v)) vs, List.length_set]
theorem wipe_off {vs : List Nat} (o : Off vs (wipe σ vs) σ') : wipe σ' vs = wipe σ vs := by
  apply List.ext_getElem?
  intro i
  rw [wipe_get, wipe_get]
  by_cases h : i ∈ vs
  · rw [if_pos h, if_pos h]
    have l := o.1
    rw [wipe_length] at l
    by_cases hl : i < σ.length
    · rw [List.getElem?_eq_getElem hl, List.getElem?_eq_getElem (by omega)]; rfl
    · rw [List.getElem?_eq_none (by omega), List.getElem?_eq_none (by omega)]
  · rw [if_neg h, if_neg h, o.2 i h, wipe_get, if_neg h]
theorem wiped {vs : List Nat} {i : Nat} {s : Sl} (h : (wipeS S vs)[i]? = some s) : s = .no ∨ (i ∉ vs ∧ S[i]? = some s) := by
  rw [wipeS_get] at h
  by_cases hv : i ∈ vs
  · rw [if_pos hv] at h
    obtain ⟨t, h1, h2⟩ := Option.map_eq_some_iff.mp h
    exact .inl h2.symm
  · rw [if_neg hv] at h
    exact .inr ⟨hv, h⟩
theorem Owns.wipeO {vs : List Nat} {a : Addr} (h : Owns (wipeS S vs) (wipe σ vs) a) : Owns S σ a := by
  obtain ⟨i, s, h1, h2, h3⟩ := h
  rcases wiped h1 with rfl | ⟨hv, h1⟩
  · cases h2
  · rw [wipe_get, if_neg hv] at h3
    exact ⟨i, s, h1, h2, h3⟩
theorem RelS.wipeR (R : RelS K S σ H) (vs : List Nat) : RelS K (wipeS S vs) (wipe σ vs) H := by
  refine ⟨by rw [wipe_length, wipeS_length]; exact R.len, fun i s h => ?_, fun i j s t a h1 h2 o1 o2 e1 e2 => ?_⟩
  · rcases wiped h with rfl | ⟨hv, h⟩
    · trivial
    · rw [wipe_get, if_neg hv]
      exact R.sl i s h
  · rcases wiped h1 with rfl | ⟨n1, h1⟩
    · cases o1
    · rcases wiped h2 with rfl | ⟨n2, h2⟩
      · cases o2
      · rw [wipe_get, if_neg n1] at e1
        rw [wipe_get, if_neg n2] at e2
        exact R.dj i j s t a h1 h2 o1 o2 e1 e2
theorem Frm.wipeF (vs : List Nat) : Frm S σ H (wipeS S vs) (wipe σ vs) H := by
  refine ⟨fun a o h n => ⟨h, fun w => n w.wipeO⟩, fun i s h p => ?_⟩
  rcases wiped h with rfl | ⟨hv, h⟩
  · cases p
  · rw [wipe_get, if_neg hv]
    exact ⟨⟨s, h, p⟩, rfl⟩
theorem backed {vs : List Nat} {i : Nat} {s : Sl} (h : (back S0 S vs)[i]? = some s) : (i ∈ vs ∧ s = keepVal S0 i) ∨ (i ∉ vs ∧ S[i]? = some s) := by
  rw [back_get] at h
  by_cases hv : i ∈ vs
  · rw [if_pos hv] at h
    obtain ⟨t, h1, h2⟩ := Option.map_eq_some_iff.mp h
    exact .inl ⟨hv, h2.symm⟩
  · rw [if_neg hv] at h
    exact .inr ⟨hv, h⟩
theorem keepVal_no (S0 : Sk) (v : Nat) : ownd (keepVal S0 v) = false ∧ pinned (keepVal S0 v) = false := by
  unfold keepVal
  split <;> exact ⟨rfl, rfl⟩
theorem Owns.back {vs : List Nat} {a : Addr} (h : Owns (back S0 S vs) σ a) : Owns S (wipe σ vs) a := by
  obtain ⟨i, s, h1, h2, h3⟩ := h
  rcases backed h1 with ⟨hv, rfl⟩ | ⟨hv, h1⟩
  · rw [(keepVal_no S0 i).1] at h2; cases h2
  · exact ⟨i, s, h1, h2, by rw [wipe_get, if_neg hv]; exact h3⟩
theorem RelS.back {vs : List Nat} (R0 : RelS K S0 σ H0) (e : Ext H0 H) (R : RelS K S (L2.wipe σ vs) H) : RelS K (back S0 S vs) σ H := by
  refine ⟨by rw [back_length, ← R.len, wipe_length], fun i s h => ?_, fun i j s t a h1 h2 o1 o2 e1 e2 => ?_⟩
  · rcases backed h with ⟨hv, rfl⟩ | ⟨hv, h⟩
    · unfold keepVal
      split
      · rename_i x hx
        obtain ⟨v, h1, h2⟩ := R0.atVal hx
        exact ⟨v, h1, h2.ext e⟩
      · trivial
    · have := R.sl i s h
      rw [wipe_get, if_neg hv] at this
      exact this
  · rcases backed h1 with ⟨n1, rfl⟩ | ⟨n1, h1⟩
    · rw [(keepVal_no S0 i).1] at o1; cases o1
    · rcases backed h2 with ⟨n2, rfl⟩ | ⟨n2, h2⟩
      · rw [(keepVal_no S0 j).1] at o2; cases o2
      · exact R.dj i j s t a h1 h2 o1 o2 (by rw [wipe_get, if_neg n1]; exact e1) (by rw [wipe_get, if_neg n2]; exact e2)
theorem Frm.back {vs : List Nat} (F : Frm S σ H (wipeS S vs) (L2.wipe σ vs) H) (F2 : Frm (wipeS S vs) (L2.wipe σ vs) H S1 (L2.wipe σ vs) H1) : Frm S σ H (back S0 S1 vs) σ H1 := by
  have T := F.trans F2
  refine ⟨fun a o h n => ?_, fun i s h p => ?_⟩
  · obtain ⟨h1, h2⟩ := T.keep a o h n
    exact ⟨h1, fun w => h2 w.back⟩
  · rcases backed h with ⟨hv, rfl⟩ | ⟨hv, h⟩
    · rw [(keepVal_no S0 i).2] at p; cases p
    · exact ⟨(T.io i s h p).1, rfl⟩
/-- what is not ours is written -/
theorem RelS.other (R : RelS K S σ H) {a : Addr} {vs ws : List V} (ha : H a = some (.lst vs)) (n : ¬ Owns S σ a) : RelS K S σ (upd H a (.lst ws)) := by
  have e : Ext H (upd H a (.lst ws)) := ⟨fun b xs h => by rw [upd_ne (ne_of h ha (by intro z; cases z))]; exact h, fun b o w h => by rw [upd_ne (ne_of h ha (by intro z; cases z))]; exact h⟩
  have ne : ∀ (i : Nat) (s : Sl) (b : Addr), S[i]? = some s → ownd s = true → σ[i]? = some (some (V.ref b)) → b ≠ a := fun i s b h1 h2 h3 z => n ⟨i, s, h1, h2, by rw [← z]; exact h3⟩
  refine ⟨R.len, fun i sl h => ?_, R.dj⟩
  cases sl with
  | no => trivial
  | hid => trivial
  | val y =>
    obtain ⟨v, h1, h2⟩ := R.atVal h
    exact ⟨v, h1, h2.ext e⟩
  | own y =>
    obtain ⟨b, w, h1, h2, h3⟩ := R.atOwn h
    exact ⟨b, w, h1, by rw [upd_ne (ne i _ b h rfl h1)]; exact h2, h3.ext e⟩
  | io y =>
    obtain ⟨b, w, h1, h2, h3⟩ := R.atIo h
    exact ⟨b, w, h1, by rw [upd_ne (ne i _ b h rfl h1)]; exact h2, h3.ext e⟩
theorem other_ext {a : Addr} {vs ws : List V} (ha : H a = some (.lst vs)) : Ext H (upd H a (.lst ws)) :=
  ⟨fun b xs h => by rw [upd_ne (ne_of h ha (by intro z; cases z))]; exact h, fun b o w h => by rw [upd_ne (ne_of h ha (by intro z; cases z))]; exact h⟩

/-! ### tests of a comprehension -/
def WF : WX := fun _ _ _ _ => False
structure ETs (X : Cx) (W : WX) (ifs : List Expr) (f : Sk → R Bool) : Prop where
  pts : PTs X ifs (LiftT X.K X.mg W f)
theorem PTs.imp {ifs : List Expr} {t t' : TT} (h : PTs X ifs t) (i : ∀ σ H Q, t' σ H Q → t σ H Q) : PTs X ifs t' := ⟨fun pins s σ H Q I q => h.run pins s σ H Q I (i σ H Q q)⟩
def yesF : Sk → R Bool := fun S => .ok true S
theorem ets_nil : ETs X W [] yesF := ⟨PTs.imp pts_nil fun σ H Q h => liftOkT h⟩
theorem ets_one {c : Expr} {f : Sk → R Bool} (h : ET X W c f) : ETs X W [c] f := ⟨pts_one h.pt⟩

/-! ### the comprehension -/
def compL (g : PV → Sk → Option Sk) (c : Sk → R Bool) (e : Sk → R PV) (vs : List Nat) : List PV → Sk → R (List PV)
  | [], S => .ok [] S
  | x :: xs, S => match g x S with
    | none => .stuck
    | some S1 => (c S1).bind fun b S2 => if b = true then (e S2).bind fun y S3 => (compL g c e vs xs (wipeS S3 vs)).bind fun ys S4 => .ok (y :: ys) S4 else compL g c e vs xs (wipeS S2 vs)
def compF (f : Sk → R (List PV × Option Nat)) (g : PV → Sk → Option Sk) (c : Sk → R Bool) (e : Sk → R PV) (vs : List Nat) : Sk → R PV := fun S => (f S).bind fun r S1 =>
  match compL g c e vs r.1 (wipeS (hideL (mkLd S1 r.2) S1) vs) with
  | .ok ys S2 => if ys.length ≤ 16777216 then (match giveL (mkLd S1 r.2) (back (hideL (mkLd S1 r.2) S1) S2 vs) with
    | some S3 => .ok (.lst ys) S3
    | none => .stuck) else .stuck
  | _ => .stuck
variable {tg iter elt : Expr} {ifs : List Expr} {ts : List Nat} {f : Sk → R (List PV × Option Nat)} {g : PV → Sk → Option Sk} {c : Sk → R Bool} {e : Sk → R PV} {pos : Pos}
theorem comp_ok {J : It} {xs ys : List PV} {pl : Option (Addr × HO)} {vs : List Nat} (w : WP K J xs H pl) (R0 : RelS K S σ H) (hp : Pn pl H) (off : ∀ p, pl = some p → ¬ Owns S σ p.1) (hts : ∀ i ∈ ts, i ∈ vs) {S2 : Sk} (q : compL g c e vs xs (wipeS S vs) = .ok ys S2) (hl : ys.length ≤ 16777216)
    {D : Addr} (hD : H D = none) {Q : Hp → Prop} (hQ : ∀ Hc vacc, RelS K S2 (wipe σ vs) Hc → Frm (wipeS S vs) (wipe σ vs) H S2 (wipe σ vs) Hc → Hc D = some (.lst vacc) → RepA K Hc vacc ys → ¬ Owns S2 (wipe σ vs) D → Q Hc) :
    ∃ V : Nat → Nat → Hp → Prop, (∃ m, V 0 m (upd H D (.lst []))) ∧ ∀ i m H, V i m H →
      (J.stop i H ∧ Q H) ∨ (J.go i H ∧ ∃ Nx : Hp → Prop, (∀ H', Nx H' → ∃ m', m' < m ∧ V (i + 1) m' H') ∧ ∀ x H', J.yld i H x H' → LiftG K ts g x (wipe σ vs) H' fun σ2 H2 => wipe σ2 vs = wipe σ vs ∧ LiftT K mg WF c σ2 H2 fun b H3 =>
        if b = true then LiftE K mg WF e σ2 H3 fun y H4 => ∃ acc, H4 D = some (.lst acc) ∧ acc.length < sizeLine ∧ Nx (upd H4 D (.lst (acc ++ [y]))) else Nx H3) := by
  have Rw := R0.wipeR vs
  refine ⟨fun i m Hc => m = xs.length - i ∧ i ≤ xs.length ∧ ∃ Sc acc vacc zs, RelS K Sc (wipe σ vs) Hc ∧ Frm (wipeS S vs) (wipe σ vs) H Sc (wipe σ vs) Hc ∧ Hc D = some (.lst vacc) ∧ RepA K Hc vacc acc ∧ ¬ Owns Sc (wipe σ vs) D ∧ compL g c e vs (xs.drop i) Sc = .ok zs S2 ∧ acc ++ zs = ys, ?_, ?_⟩
  · exact ⟨xs.length, by simp, Nat.zero_le _, wipeS S vs, [], [], ys, Rw.same (same_upd hD), .same (same_upd hD), upd_same, .nil, Rw.notFree hD, q, rfl⟩
  rintro i m Hc ⟨rfl, hi, Sc, acc, vacc, zs, Rc, Fc, hDc, ra, nD, qc, hy⟩
  have ex := Rw.ext Fc
  have pn : Pn pl Hc := by
    cases pl with
    | none => trivial
    | some p => exact (Fc.keep p.1 p.2 hp fun z => off p rfl z.wipeO).1
  by_cases hlt : i < xs.length
  · refine .inr ⟨w.goes i Hc hlt ex pn, fun H' => xs.length - (i + 1) = xs.length - (i + 1) ∧ i + 1 ≤ xs.length ∧ ∃ Sc acc vacc zs, RelS K Sc (wipe σ vs) H' ∧ Frm (wipeS S vs) (wipe σ vs) H Sc (wipe σ vs) H' ∧ H' D = some (.lst vacc) ∧ RepA K H' vacc acc ∧ ¬ Owns Sc (wipe σ vs) D ∧ compL g c e vs (xs.drop (i + 1)) Sc = .ok zs S2 ∧ acc ++ zs = ys,
      fun H' h => ⟨xs.length - (i + 1), by omega, h⟩, fun v H' y => ?_⟩
    obtain ⟨sm, x, hx, rx⟩ := w.yields i Hc v H' hlt ex pn y
    have hd : xs.drop i = x :: xs.drop (i + 1) := by
      rw [List.drop_eq_getElem_cons hlt]
      congr 1
      rw [List.getElem?_eq_getElem hlt] at hx
      exact Option.some.inj hx
    rw [hd] at qc
    unfold compL at qc
    refine ⟨Sc, x, Rc.same sm, rx, ?_⟩
    cases hg : g x Sc with
    | none => rw [hg] at qc; cases qc
    | some S3 =>
      rw [hg] at qc
      dsimp only at qc
      intro σ2 H2 R2 F2 O2
      have ew : wipe σ2 vs = wipe σ vs := wipe_off (O2.mono hts)
      have F12 := (Frm.same (S := Sc) (σ := wipe σ vs) sm).trans F2
      refine ⟨ew, S3, R2, ?_⟩
      cases hc : c S3 with
      | stuck => rw [hc] at qc; cases qc
      | exc z S4 => rw [hc] at qc; cases qc
      | ok b S4 =>
        rw [hc, R.bind_ok] at qc
        intro H3 R3 F3
        cases b with
        | false =>
          rw [if_neg Bool.false_ne_true] at qc ⊢
          have F4 := (F12.trans F3).trans (Frm.wipeF vs)
          have R4 := R3.wipeR vs
          rw [ew] at F4 R4
          obtain ⟨d1, d2⟩ := F4.keep D _ hDc nD
          exact ⟨rfl, hlt, wipeS S4 vs, acc, vacc, zs, R4, Fc.trans F4, d1, RepA.ext (Rc.ext F4) ra, d2, qc, hy⟩
        | true =>
          rw [if_pos rfl] at qc ⊢
          refine ⟨S4, R3, ?_⟩
          cases he : e S4 with
          | stuck => rw [he] at qc; cases qc
          | exc z S5 => rw [he] at qc; cases qc
          | ok y S5 =>
            rw [he, R.bind_ok] at qc
            cases hr : compL g c e vs (xs.drop (i + 1)) (wipeS S5 vs) with
            | stuck => rw [hr] at qc; cases qc
            | exc z S6 => rw [hr] at qc; cases qc
            | ok zs' S6 =>
              rw [hr, R.bind_ok] at qc
              cases qc
              intro v' H5 rv R5 F5
              have F6 := ((F12.trans F3).trans F5).trans (Frm.wipeF vs)
              have R6 := R5.wipeR vs
              rw [ew] at F6 R6
              obtain ⟨d1, d2⟩ := F6.keep D _ hDc nD
              have xt := other_ext (ws := vacc ++ [v']) d1
              have ra2 := RepA.ext (Rc.ext F6) ra
              refine ⟨vacc, d1, ?_, rfl, hlt, wipeS S5 vs, acc ++ [y], vacc ++ [v'], zs', R6.other d1 d2, ?_, upd_same, RepA.ext xt (ra2.append (.cons rv .nil)), d2, hr, by rw [List.append_assoc]; exact hy⟩
              · rw [sizeLine_eq, ra.length]
                have := congrArg List.length hy
                rw [List.length_append, List.length_cons] at this
                omega
              · have G := Fc.trans F6
                refine ⟨fun b o hb nb => ?_, G.io⟩
                obtain ⟨g1, g2⟩ := G.keep b o hb nb
                exact ⟨by rw [upd_ne (fun z => by rw [z, hD] at hb; cases hb)]; exact g1, g2⟩
  · have ei : i = xs.length := by omega
    subst ei
    rw [List.drop_length] at qc
    cases qc
    rw [List.append_nil] at hy
    subst hy
    exact .inl ⟨w.stops Hc ex pn, hQ Hc vacc Rc Fc hDc ra nD⟩
theorem comp_lift {vs : List Nat} {Q : VK} (hts : ∀ i ∈ ts, i ∈ vs) (h : LiftL K mg W (compF f g c e vs) σ H Q) : tLc (LiftI K mg W f) (LiftG K ts g) (LiftT K mg WF c) (LiftE K mg WF e) vs σ H Q := by
  obtain ⟨S, R0, q⟩ := h
  refine ⟨S, R0, ?_⟩
  unfold compF at q
  cases hf : f S with
  | stuck => rw [hf] at q; exact q
  | exc y S1 => rw [hf] at q; exact q
  | ok r S1 =>
    rw [hf, R.bind_ok] at q
    intro J H1 pl w L R1 F1
    obtain ⟨hd, pn⟩ := hid_of R1 L
    intro D hD
    cases hq : compL g c e vs r.1 (wipeS (hideL (mkLd S1 r.2) S1) vs) with
    | stuck => rw [hq] at q; exact (show False from q).elim
    | exc y S2 => rw [hq] at q; exact (show False from q).elim
    | ok ys S2 =>
      rw [hq] at q
      dsimp only at q
      by_cases hl : ys.length ≤ 16777216
      · rw [if_pos hl] at q
        cases hb : giveL (mkLd S1 r.2) (back (hideL (mkLd S1 r.2) S1) S2 vs) with
        | none => rw [hb] at q; exact (show False from q).elim
        | some S3 =>
          rw [hb] at q
          refine comp_ok w hd.rel pn hd.off hts hq hl hD fun Hc vacc Rc Fc hDc ra nD => ?_
          have ex := (hd.rel.wipeR vs).ext Fc
          have Rb := RelS.back hd.rel ex Rc
          have Fb := Frm.back (S0 := hideL (mkLd S1 r.2) S1) (Frm.wipeF vs) Fc
          obtain ⟨a1, a2, a3⟩ := hd.back _ _ _ _ Rb Fb hb
          refine q D (.lst vacc) Hc hDc ra (fun z => ?_) (fun o ho => ?_) a1 (F1.trans a2)
          · rcases a3 D z with z | ⟨o, ho, _⟩
            · exact nD z.back
            · rw [hD] at ho; cases ho
          · by_cases hw : Owns S σ D
            · exact hw
            · have := (F1.keep D o ho hw).1
              rw [hD] at this; cases this
      · rw [if_neg hl] at q; exact (show False from q).elim

theorem el_comp {scope : Scope} {own : List (Str × Nat)} (hc : X.calm = true) (hN : X.N.Nodup) (hi : EI X W tg iter f) (ok : BlkOk X.N X.env.scope scope own)
    (hg : ∀ (s : Shared) (H : Hp) (C : Addr) (cl : List (Str × Addr)) (fp : List Addr), EG (X.blk s H scope (compEnvC scope cl C X.env) fp) tg ts g) (ht : ∀ (s : Shared) (H : Hp) (C : Addr) (cl : List (Str × Addr)) (fp : List Addr), ETs (X.blk s H scope (compEnvC scope cl C X.env) fp) WF ifs c)
    (he : ∀ (s : Shared) (H : Hp) (C : Addr) (cl : List (Str × Addr)) (fp : List Addr), EV (X.blk s H scope (compEnvC scope cl C X.env) fp) WF elt e) (hts : ∀ i ∈ ts, i ∈ own.map (·.2)) (hs : ∀ x, foldedSetIterable iter X.env x = pure x) :
    EL X W (.ListComp elt [⟨tg, iter, ifs, 0⟩] scope pos) (compF f g c e (own.map (·.2))) := by
  exact ⟨PE.imp (pe_lc (g := LiftG X.K ts g) (tt := LiftT X.K X.mg WF c) (te := LiftE X.K X.mg WF e) hc hN hi.pi ok (fun s H C cl fp => (hg s H C cl fp).pg) (fun s H C cl fp => (ht s H C cl fp).pts) (fun s H C cl fp => (he s H C cl fp).pe) hs) fun σ H Q h => comp_lift hts h⟩
/-! ### an object of ours is given out for good, and still held by its name -/
def shareF (j : Nat) : Sk → R PV := fun S => match S[j]? with
  | some (.own x) => .ok x (S.set j (.val x))
  | some (.val x) => .ok x S
  | _ => .stuck
theorem ev_share {j : Nat} {e : Expr} (h : PE X e (tVar j)) : EV X W e (shareF j) := by
  refine ⟨⟨fun pins s σ H Q I ⟨S, R0, q⟩ => ?_⟩⟩
  unfold shareF at q
  split at q
  · rename_i x hx
    obtain ⟨a, u, h1, h2, h3⟩ := R0.atOwn hx
    refine thn (h.run pins s σ H (fun v H' => v = .ref a ∧ H' = H) I ⟨_, h1, rfl, rfl⟩) fun w s1 ⟨v, H1, I1, rv, ev, eH⟩ => ?_
    subst ev
    subst eH
    obtain ⟨o, I2⟩ := freeze_inv I1 h2 h3
    have ex := freeze_ext (o := o) R0 h2 h3
    have rr : Rep X.K (upd H1 a (.frz o u)) (.ref a) x := (h3.ext ex).frz upd_same
    have nn : ¬ Owns (S.set j .no) σ a := fun w => by
      obtain ⟨k, t, k1, k2, k3⟩ := w
      rcases get_set k1 with ⟨rfl, rfl⟩ | ⟨ne, k1⟩
      · cases k2
      · exact ne (R0.dj j k _ t a hx k1 rfl k2 h1 k3)
    have R2 : RelS X.K (S.set j .no) σ (upd H1 a (.frz o u)) := (R0.setNo j).freeze h2 h3 nn
    refine ⟨.ref a, _, I2, rv, q _ _ rr ⟨by rw [List.length_set]; exact R0.len, fun k t ht => ?_, fun k l t t' b g1 g2 o1 o2 w1 w2 => ?_⟩ ⟨fun b ob hb nb => ⟨?_, fun w => ?_⟩, fun k t ht p => ?_⟩⟩
    · rcases get_set ht with ⟨rfl, rfl⟩ | ⟨ne, ht⟩
      · exact ⟨_, h1, rr⟩
      · exact R2.sl k t (by rw [List.getElem?_set_ne ne]; exact ht)
    · rcases get_set g1 with ⟨rfl, rfl⟩ | ⟨n1, q1⟩
      · cases o1
      · rcases get_set g2 with ⟨rfl, rfl⟩ | ⟨n2, q2⟩
        · cases o2
        · exact R0.dj k l t t' b q1 q2 o1 o2 w1 w2
    · rw [upd_ne (fun z => by subst z; exact nb ⟨j, _, hx, rfl, h1⟩)]
      exact hb
    · obtain ⟨k, t, k1, k2, k3⟩ := w
      rcases get_set k1 with ⟨rfl, rfl⟩ | ⟨ne, k1⟩
      · cases k2
      · exact nb ⟨k, t, k1, k2, k3⟩
    · rcases get_set ht with ⟨rfl, rfl⟩ | ⟨ne, ht⟩
      · cases p
      · exact ⟨⟨t, ht, p⟩, rfl⟩
  · rename_i x hx
    obtain ⟨v, h1, h2⟩ := R0.atVal hx
    exact h.run pins s σ H Q I ⟨v, h1, q v H h2 R0 .refl⟩
  · exact (show False from q).elim
end
end VL

set_option Elab.async false
set_option linter.all false
set_option autoImplicit false
set_option maxRecDepth 100000
set_option maxHeartbeats 4000000
/-! VL8: defs, calls. -/
namespace VL
open PySem L2

inductive FR where
  | stuck | ok (r : RV) (outs : List Sl) | exc (e : Exn) (outs : List Sl)
abbrev Fn := List Sl → FR
/-- what is lent is still there -/
def ioOk : List Sl → Sk → Bool
  | [], _ => true
  | .io _ :: as, .io _ :: ss => ioOk as ss
  | .io _ :: _, _ => false
  | .val _ :: as, _ :: ss => ioOk as ss
  | _, _ => false
def O.toFR (args : List Sl) : O → FR
  | .nx S => if ioOk args S = true then .ok (.v .non) S else .stuck
  | .rt r S => if ioOk args S = true then .ok r S else .stuck
  | .exc e S => if ioOk args S = true then .exc e S else .stuck
  | _ => .stuck
/-- np parameters, n names -/
def mkFn (np n : Nat) (body : Sk → O) : Fn := fun args => if args.length = np then (body (args ++ List.replicate (n - np) .no)).toFR args else .stuck

section
variable {X : Cx} {W : WX} {K : PySem.W.Frag} {mg : Str → Option Value} {S S0 S1 S2 S' : Sk} {σ σ1 σ' : St} {H H0 H1 H' : Hp}
structure Fin (K : PySem.W.Frag) (args : List Sl) (vs : List V) (H : Hp) (outs : List Sl) (H' : Hp) : Prop where
  out : ∀ (i : Nat) (x y : PV), args[i]? = some (.io x) → outs[i]? = some (.io y) → ∃ a u, vs[i]? = some (V.ref a) ∧ H' a = some u ∧ RepOb K H' u y
  all : ∀ (i : Nat) (x : PV), args[i]? = some (.io x) → ∃ y, outs[i]? = some (.io y)
  keep : ∀ a o, H a = some o → ¬ Owns args (vs.map some) a → H' a = some o
def SpOf (K : PySem.W.Frag) (mg : Str → Option Value) (fn : Fn) : Sp := fun vs H Q E => ∃ args : List Sl, RelS K args (vs.map some) H ∧ match fn args with
  | .stuck => False
  | .ok (.v x) outs => ∀ v H', Rep K H' v x → Fin K args vs H outs H' → Q v H'
  | .ok (.l x) outs => ∀ p u H', H' p = some u → RepOb K H' u x → H p = none → Fin K args vs H outs H' → Q (.ref p) H'
  | .exc e outs => ∀ cls d H', ExnRep K mg H' cls d e → Fin K args vs H outs H' → E cls d H'
theorem ioOk_get : ∀ {args : List Sl} {S : Sk}, ioOk args S = true → ∀ (i : Nat) (x : PV), args[i]? = some (.io x) → ∃ y, S[i]? = some (.io y)
  | [], S, _, i, x, h => by simp at h
  | .io _ :: as, .io y :: ss, h, 0, x, e => ⟨y, rfl⟩
  | .io _ :: as, .io y :: ss, h, i + 1, x, e => by
    have := ioOk_get (args := as) (S := ss) h i x (by simpa using e)
    simpa using this
  | .val _ :: as, _ :: ss, h, 0, x, e => by simp at e
  | .val _ :: as, _ :: ss, h, i + 1, x, e => by
    have := ioOk_get (args := as) (S := ss) h i x (by simpa using e)
    simpa using this
  | .io _ :: as, [], h, i, x, e => by cases h
  | .io _ :: as, .no :: ss, h, i, x, e => by cases h
  | .io _ :: as, .val _ :: ss, h, i, x, e => by cases h
  | .io _ :: as, .own _ :: ss, h, i, x, e => by cases h
  | .io _ :: as, .hid :: ss, h, i, x, e => by cases h
  | .val _ :: as, [], h, i, x, e => by cases h
  | .no :: as, _, h, i, x, e => by cases h
  | .own _ :: as, _, h, i, x, e => by cases h
  | .hid :: as, _, h, i, x, e => by cases h
theorem ioOk_own : ∀ {args : List Sl} {S : Sk}, ioOk args S = true → ∀ (i : Nat) (s : Sl), args[i]? = some s → ownd s = true → ∃ x, s = .io x
  | [], S, _, i, s, h, _ => by simp at h
  | .io _ :: as, .io y :: ss, h, 0, s, e, o => by cases e; exact ⟨_, rfl⟩
  | .io _ :: as, .io y :: ss, h, i + 1, s, e, o => ioOk_own (args := as) (S := ss) h i s (by simpa using e) o
  | .val _ :: as, _ :: ss, h, 0, s, e, o => by cases e; cases o
  | .val _ :: as, _ :: ss, h, i + 1, s, e, o => ioOk_own (args := as) (S := ss) h i s (by simpa using e) o
  | .io _ :: as, [], h, i, s, e, o => by cases h
  | .io _ :: as, .no :: ss, h, i, s, e, o => by cases h
  | .io _ :: as, .val _ :: ss, h, i, s, e, o => by cases h
  | .io _ :: as, .own _ :: ss, h, i, s, e, o => by cases h
  | .io _ :: as, .hid :: ss, h, i, s, e, o => by cases h
  | .val _ :: as, [], h, i, s, e, o => by cases h
  | .no :: as, _, h, i, s, e, o => by cases h
  | .own _ :: as, _, h, i, s, e, o => by cases h
  | .hid :: as, _, h, i, s, e, o => by cases h
theorem app_get {α : Type} {as : List α} {n i : Nat} {d x : α} (h : (as ++ List.replicate n d)[i]? = some x) : as[i]? = some x ∨ x = d := by
  by_cases hl : i < as.length
  · rw [List.getElem?_append_left hl] at h
    exact .inl h
  · rw [List.getElem?_append_right (by omega)] at h
    exact .inr (List.mem_replicate.mp (List.mem_of_getElem? h)).2
theorem start_get {N : List Str} {vs : List V} {i : Nat} {o : Option V} (h : (vs.map some)[i]? = some o) : (L2.start N vs)[i]? = some o := by
  unfold L2.start
  have hl : i < (vs.map some).length := (List.getElem?_eq_some_iff.mp h).1
  rw [List.getElem?_append_left hl]
  exact h
theorem start_own {N : List Str} {args : List Sl} {n : Nat} {vs : List V} (hl : (vs.map some).length = args.length) {a : Addr} : Owns (args ++ List.replicate n .no) (L2.start N vs) a ↔ Owns args (vs.map some) a := by
  constructor
  · rintro ⟨i, s, h1, h2, h3⟩
    rcases app_get h1 with h1 | rfl
    · have li : i < args.length := (List.getElem?_eq_some_iff.mp h1).1
      unfold L2.start at h3
      rw [List.getElem?_append_left (by omega)] at h3
      exact ⟨i, s, h1, h2, h3⟩
    · cases h2
  · rintro ⟨i, s, h1, h2, h3⟩
    have li : i < args.length := (List.getElem?_eq_some_iff.mp h1).1
    exact ⟨i, s, by rw [List.getElem?_append_left li]; exact h1, h2, start_get h3⟩
theorem start_rel {N : List Str} {args : List Sl} {vs : List V} (R : RelS K args (vs.map some) H) (hn : args.length ≤ N.length) : RelS K (args ++ List.replicate (N.length - args.length) .no) (L2.start N vs) H := by
  have hl := R.len
  rw [List.length_map] at hl
  have get : ∀ i, i < args.length → (L2.start N vs)[i]? = (vs.map some)[i]? := fun i hi => by
    unfold L2.start
    rw [List.getElem?_append_left (by rw [List.length_map]; omega)]
  refine ⟨?_, fun i s h => ?_, fun i j s t a h1 h2 o1 o2 e1 e2 => ?_⟩
  · unfold L2.start
    simp only [List.length_append, List.length_map, List.length_replicate]
    omega
  · rcases app_get h with h | rfl
    · rw [get i (List.getElem?_eq_some_iff.mp h).1]
      exact R.sl i s h
    · trivial
  · rcases app_get h1 with h1 | rfl
    · rcases app_get h2 with h2 | rfl
      · rw [get i (List.getElem?_eq_some_iff.mp h1).1] at e1
        rw [get j (List.getElem?_eq_some_iff.mp h2).1] at e2
        exact R.dj i j s t a h1 h2 o1 o2 e1 e2
      · cases o2
    · cases o1
/-- the end of a body -/
theorem fin_of {N : List Str} {args : List Sl} {vs : List V} {n : Nat} (R : RelS K args (vs.map some) H) (ok : ioOk args S' = true) (R' : RelS K S' σ' H') (F : Frm (args ++ List.replicate n .no) (L2.start N vs) H S' σ' H') : Fin K args vs H S' H' := by
  refine ⟨fun i x y h1 h2 => ?_, fun i x h => ioOk_get ok i x h, fun a o ha no => (F.keep a o ha fun w => no ((start_own R.len).mp w)).1⟩
  obtain ⟨a, u, e1, e2, e3⟩ := R'.atIo h2
  obtain ⟨_, e4⟩ := F.io i _ h2 rfl
  have q := R.atIo h1
  obtain ⟨b, w, g1, g2, g3⟩ := q
  rw [start_get g1] at e4
  rw [e4] at e1
  cases e1
  rw [List.getElem?_map] at g1
  obtain ⟨v, k1, k2⟩ := Option.map_eq_some_iff.mp g1
  cases k2
  exact ⟨_, u, k1, e2, e3⟩
theorem fin_fresh {N : List Str} {args : List Sl} {vs : List V} {n : Nat} (R : RelS K args (vs.map some) H) (ok : ioOk args S' = true) (F : Frm (args ++ List.replicate n .no) (L2.start N vs) H S' σ' H') {p : Addr} (h3 : ¬ Owns S' σ' p) (h4 : ∀ o, H p = some o → Owns (args ++ List.replicate n .no) (L2.start N vs) p) : H p = none := by
  cases hp : H p with
  | none => rfl
  | some o =>
    obtain ⟨i, s, k1, k2, k3⟩ := h4 o hp
    rcases app_get k1 with k1 | rfl
    · obtain ⟨x, rfl⟩ := ioOk_own ok i s k1 k2
      obtain ⟨y, hy⟩ := ioOk_get ok i x k1
      obtain ⟨_, e⟩ := F.io i _ hy rfl
      exact absurd ⟨i, _, hy, rfl, e.trans k3⟩ h3
    · cases k2
/-- a body keeps its promise -/
theorem body_ok {N : List Str} {np : Nat} {body : Sk → O} {vs : List V} {Q : VK} {E : XK} (hn : np ≤ N.length) (h : SpOf K mg (mkFn np N.length body) vs H Q E) :
    LiftS K mg (fun cls d _ H => E cls d H) body { nx := fun _ H' => Q .non H', rt := Q } (L2.start N vs) H := by
  obtain ⟨args, R, q⟩ := h
  unfold mkFn at q
  by_cases hl : args.length = np
  · rw [if_pos hl] at q
    have hn' : args.length ≤ N.length := by omega
    refine ⟨_, start_rel R hn', ?_⟩
    rw [← hl] at q
    cases hb : body (args ++ List.replicate (N.length - args.length) .no) with
    | stuck => rw [hb] at q; exact q
    | bk S' => rw [hb] at q; exact q.elim
    | ct S' => rw [hb] at q; exact q.elim
    | nx S' =>
      rw [hb] at q
      dsimp only [O.toFR] at q
      by_cases ok : ioOk args S' = true
      · rw [if_pos ok] at q
        exact fun σ' H' R' F' => q .non H' .non (fin_of R ok R' F')
      · rw [if_neg ok] at q; exact q.elim
    | exc e S' =>
      rw [hb] at q
      dsimp only [O.toFR] at q
      by_cases ok : ioOk args S' = true
      · rw [if_pos ok] at q
        exact fun cls d σ' H' er R' F' => q cls d H' er (fin_of R ok R' F')
      · rw [if_neg ok] at q; exact q.elim
    | rt r S' =>
      rw [hb] at q
      dsimp only [O.toFR] at q
      by_cases ok : ioOk args S' = true
      · rw [if_pos ok] at q
        cases r with
        | v x => exact fun v σ' H' rv R' F' => q v H' rv (fin_of R ok R' F')
        | l x => exact fun p u σ' H' h1 h2 h3 h4 R' F' => q p u H' h1 h2 (fin_fresh R ok F' h3 h4) (fin_of R ok R' F')
      · rw [if_neg ok] at q; exact q.elim
  · rw [if_neg hl] at q; exact q.elim
theorem sp_len {np n : Nat} {body : Sk → O} {vs : List V} {Q : VK} {E : XK} (h : SpOf K mg (mkFn np n body) vs H Q E) : vs.length = np := by
  obtain ⟨args, R, q⟩ := h
  have l := R.len
  rw [List.length_map] at l
  unfold mkFn at q
  by_cases hl : args.length = np
  · omega
  · rw [if_neg hl] at q; exact q.elim
abbrev bodyCx (P : Program) (w : World) (K : PySem.W.Frag) (mg : Str → Option Value) (base : Heap) (N : List Str) (qual : Str) (scope : Scope) (f : Addr) (cdv : Value) (A : Around) (outer : List Env) (s : Shared) (H : Hp) (E : XK) : Cx := cxOf (L2.CX P w) P w K mg base N qual scope f cdv A outer s H E
abbrev bodyW (E : XK) : WX := fun cls d _ H => E cls d H
theorem fn_ok {P : Program} {w : World} {base : Heap} {x qual : Str} {params : Arguments} {body : List Stmt} {scope : Scope} {dvs : List V} {kws : List (Str × V)} {f : Addr} {fd : FuncData} {N ps : List Str} {np k : Nat} {F : Sk → O}
    (Fd : FunD K x qual params body scope dvs kws f fd) (Sc : FnScope N ps scope) (hp : ps.length = np) (hn : np ≤ N.length)
    (hb : ∀ (cdv : Value) (A : Around) (outer : List Env) (s : Shared) (H : Hp) (E : XK), Room k (A.deeper (PyProof.Rows.envOfC qual scope s.heap.objs.size f cdv)) → Takes (bodyCx P w K mg base N qual scope f cdv A outer s H E) (bodyW E) →
      VSs (bodyCx P w K mg base N qual scope f cdv A outer s H E) (bodyW E) body F) : FnOk P w K mg base (L2.CX P w) (k + 1) f fd ps (SpOf K mg (mkFn np N.length F)) := by
  refine Fd.ok Sc (fun vs H Q E h => by rw [hp]; exact sp_len h) fun cdv A outer s H vs Q E hr h => ⟨_, (hb cdv A outer s H E hr (takes_of rfl rfl rfl rfl)).ps, body_ok hn h⟩

/-! ### calls -/
def argOf (S : Sk) : OV → Option Sl
  | .v x => some (.val x)
  | .s j => (getO S j).map Sl.io
def argsOf (S : Sk) : List OV → Option (List Sl)
  | [] => some []
  | o :: os => match argOf S o, argsOf S os with
    | some a, some as => some (a :: as)
    | _, _ => none
def slotsOf : List OV → List Nat
  | [] => []
  | .s j :: os => j :: slotsOf os
  | .v _ :: os => slotsOf os
def putOuts : Sk → List OV → List Sl → Option Sk
  | S, [], _ => some S
  | S, .v _ :: os, _ :: outs => putOuts S os outs
  | S, .s j :: os, .io y :: outs => putOuts (putO S j y) os outs
  | _, _, _ => none
def callG {α : Type} (fn : Fn) (pick : RV → Option α) (fa : Sk → R (List OV)) : Sk → R α := fun S => (fa S).bind fun os S1 => if (slotsOf os).Nodup then (match argsOf S1 os with
  | none => .stuck
  | some args => (match fn args with
    | .stuck => .stuck
    | .ok r outs => (match pick r, putOuts S1 os outs with
      | some x, some S2 => .ok x S2
      | _, _ => .stuck)
    | .exc e outs => (match putOuts S1 os outs with
      | some S2 => .exc e S2
      | none => .stuck))) else .stuck
def pickV : RV → Option PV
  | .v x => some x
  | .l _ => none
def pickL : RV → Option PV
  | .l x => some x
  | .v _ => none
def callF (fn : Fn) (fa : Sk → R (List OV)) : Sk → R PV := callG fn pickV fa
def callLF (fn : Fn) (fa : Sk → R (List OV)) : Sk → R PV := callG fn pickL fa
theorem args_get : ∀ {os : List OV} {vs : List V} {args : List Sl}, OVs K σ H os vs → argsOf S os = some args → ∀ (i : Nat) (s : Sl), args[i]? = some s → ∃ o v, os[i]? = some o ∧ vs[i]? = some v ∧ OVRel K σ H o v ∧ argOf S o = some s
  | [], [], args, _, e, i, s, h => by cases e; simp at h
  | o :: os, v :: vs, args, ov, e, i, s, h => by
    unfold argsOf at e
    split at e
    · rename_i a as h1 h2
      cases e
      cases i with
      | zero => cases h; exact ⟨o, v, rfl, rfl, ov.1, h1⟩
      | succ i =>
        obtain ⟨o', v', g1, g2, g3, g4⟩ := args_get ov.2 h2 i s (by simpa using h)
        exact ⟨o', v', by simpa using g1, by simpa using g2, g3, g4⟩
    · cases e
  | [], _ :: _, _, h, _, _, _, _ => h.elim
  | _ :: _, [], _, h, _, _, _, _ => h.elim
theorem args_len : ∀ {os : List OV} {vs : List V} {args : List Sl}, OVs K σ H os vs → argsOf S os = some args → vs.length = args.length ∧ os.length = args.length
  | [], [], args, _, e => by cases e; exact ⟨rfl, rfl⟩
  | o :: os, v :: vs, args, ov, e => by
    unfold argsOf at e
    split at e
    · rename_i a as h1 h2
      cases e
      obtain ⟨l1, l2⟩ := args_len ov.2 h2
      simp [l1, l2]
    · cases e
  | [], _ :: _, _, h, _ => h.elim
  | _ :: _, [], _, h, _ => h.elim
theorem slots_nodup : ∀ {os : List OV}, (slotsOf os).Nodup → ∀ (i k j : Nat), os[i]? = some (.s j) → os[k]? = some (.s j) → i = k
  | [], _, i, k, j, h, _ => by simp at h
  | .v _ :: os, n, i, k, j, h, h' => by
    cases i with
    | zero => cases h
    | succ i =>
      cases k with
      | zero => cases h'
      | succ k => exact congrArg Nat.succ (slots_nodup (os := os) n i k j (by simpa using h) (by simpa using h'))
  | .s l :: os, n, i, k, j, h, h' => by
    have n' := List.nodup_cons.mp (show (l :: slotsOf os).Nodup from n)
    have mem : ∀ (os : List OV) (i : Nat), os[i]? = some (.s j) → j ∈ slotsOf os := by
      intro os
      induction os with
      | nil => intro i e; simp at e
      | cons o os ih =>
        intro i e
        cases i with
        | zero => cases e; exact List.mem_cons_self
        | succ i =>
          have := ih i (by simpa using e)
          cases o with
          | v x => exact this
          | s m => exact List.mem_cons_of_mem _ this
    cases i with
    | zero =>
      cases h
      cases k with
      | zero => rfl
      | succ k => exact absurd (mem os k (by simpa using h')) n'.1
    | succ i =>
      cases k with
      | zero =>
        cases h'
        exact absurd (mem os i (by simpa using h)) n'.1
      | succ k => exact congrArg Nat.succ (slots_nodup (os := os) n'.2 i k j (by simpa using h) (by simpa using h'))
theorem args_rel {os : List OV} {vs : List V} {args : List Sl} (R : RelS K S σ H) (ov : OVs K σ H os vs) (e : argsOf S os = some args) (nd : (slotsOf os).Nodup) : RelS K args (vs.map some) H ∧ ∀ a, Owns args (vs.map some) a → Owns S σ a := by
  have at' : ∀ (i : Nat) (s : Sl), args[i]? = some s → ownd s = true → ∃ j x a, os[i]? = some (.s j) ∧ getO S j = some x ∧ s = .io x ∧ vs[i]? = some (V.ref a) ∧ σ[j]? = some (some (V.ref a)) ∧ ∃ u, H a = some u ∧ RepOb K H u x := by
    intro i s h o
    obtain ⟨ob, v, h1, h2, h3, h4⟩ := args_get ov e i s h
    cases ob with
    | v x => cases h4; cases o
    | s j =>
      obtain ⟨x, g1, g2⟩ := Option.map_eq_some_iff.mp (show (getO S j).map Sl.io = some s from h4)
      obtain ⟨a, u, k1, k2, k3, k4⟩ := getO_rel R g1
      have h3' : σ[j]? = some (some v) := h3
      rw [h3'] at k1
      cases k1
      exact ⟨j, x, a, h1, g1, g2.symm, h2, h3', u, k2, k3⟩
  refine ⟨⟨by rw [List.length_map]; exact (args_len ov e).1, fun i s h => ?_, fun i k s t a h1 h2 o1 o2 e1 e2 => ?_⟩, fun a ⟨i, s, h1, h2, h3⟩ => ?_⟩
  · obtain ⟨o, v, h1, h2, h3, h4⟩ := args_get ov e i s h
    rw [List.getElem?_map, h2]
    cases o with
    | v x =>
      cases h4
      exact ⟨v, rfl, h3⟩
    | s j =>
      obtain ⟨x, g1, g2⟩ := Option.map_eq_some_iff.mp (show (getO S j).map Sl.io = some s from h4)
      subst g2
      obtain ⟨a, u, k1, k2, k3, k4⟩ := getO_rel R g1
      have h3' : σ[j]? = some (some v) := h3
      rw [h3'] at k1
      cases k1
      exact ⟨a, u, rfl, k2, k3⟩
  · obtain ⟨j, x, b, a1, a2, a3, a4, a5, u, a6, a7⟩ := at' i s h1 o1
    obtain ⟨l, y, c, b1, b2, b3, b4, b5, w, b6, b7⟩ := at' k t h2 o2
    rw [List.getElem?_map, a4] at e1
    rw [List.getElem?_map, b4] at e2
    cases e1
    cases e2
    rcases getO_slot a2 with q1 | q1 <;> rcases getO_slot b2 with q2 | q2
    all_goals
      have := R.dj j l _ _ _ q1 q2 rfl rfl a5 b5
      subst this
      exact slots_nodup nd i k j a1 b1
  · obtain ⟨j, x, b, a1, a2, a3, a4, a5, u, a6, a7⟩ := at' i s h1 h2
    rw [List.getElem?_map, a4] at h3
    cases h3
    rcases getO_slot a2 with q1 | q1
    · exact ⟨j, _, q1, rfl, a5⟩
    · exact ⟨j, _, q1, rfl, a5⟩
theorem putO_get {j i : Nat} {y : PV} : (putO S j y)[i]? = if i = j then (match S[j]? with
    | some (.own _) => some (.own y)
    | some (.io _) => some (.io y)
    | o => o) else S[i]? := by
  unfold putO
  split
  · rename_i x hx
    rw [set_get]
    by_cases e : i = j
    · subst e; rw [if_pos rfl, if_pos rfl, hx]; rfl
    · rw [if_neg (fun z => e z.symm), if_neg e]
  · rename_i x hx
    rw [set_get]
    by_cases e : i = j
    · subst e; rw [if_pos rfl, if_pos rfl, hx]; rfl
    · rw [if_neg (fun z => e z.symm), if_neg e]
  · rename_i h1 h2
    by_cases e : i = j
    · subst e
      refine Eq.trans ?_ (if_pos rfl).symm
      cases hs : S[i]? with
      | none => rfl
      | some s =>
        cases s with
        | own x => exact absurd hs (h1 x)
        | io x => exact absurd hs (h2 x)
        | no => rfl
        | val x => rfl
        | hid => rfl
    · rw [if_neg e]
theorem putO_length {j : Nat} {y : PV} : (putO S j y).length = S.length := by
  unfold putO
  split
  · exact List.length_set
  · exact List.length_set
  · rfl
/-- the slots behind a call -/
theorem put_slots {H' : Hp} : ∀ {os : List OV} {outs : List Sl} {S S2 : Sk} (R : List V), putOuts S os outs = some S2 → OVs K σ H os R →
    (∀ (i j : Nat) (y : PV), os[i]? = some (.s j) → outs[i]? = some (.io y) → ∃ a u, R[i]? = some (V.ref a) ∧ H' a = some u ∧ RepOb K H' u y) →
    S2.length = S.length ∧ (∀ (i : Nat) (s : Sl), S2[i]? = some s → ∃ t, S[i]? = some t ∧ ownd s = ownd t ∧ pinned s = pinned t ∧ (s = t ∨ SlRel K H' s σ[i]?)) ∧ ∀ (i : Nat) (j : Nat), os[i]? = some (.s j) → ∀ s, S2[j]? = some s → ownd s = true → SlRel K H' s σ[j]?
  | [], outs, S, S2, R, e, ov, ho => by
    have e' : some S = some S2 := by unfold putOuts at e; exact e
    cases e'
    exact ⟨rfl, fun i s h => ⟨s, h, rfl, rfl, .inl rfl⟩, fun i j h => by simp at h⟩
  | .v x :: os, o :: outs, S, S2, v :: R, e, ov, ho => by
    obtain ⟨h1, h2, h3⟩ := put_slots (os := os) (outs := outs) R e ov.2 fun i j y a b => by
      have := ho (i + 1) j y (by simpa using a) (by simpa using b)
      simpa using this
    refine ⟨h1, h2, fun i j h => ?_⟩
    cases i with
    | zero => cases h
    | succ i => exact h3 i j (by simpa using h)
  | .s j :: os, .io y :: outs, S, S2, v :: R, e, ov, ho => by
    obtain ⟨h1, h2, h3⟩ := put_slots (os := os) (outs := outs) R (show putOuts (putO S j y) os outs = some S2 from e) ov.2 fun i j y a b => by
      have := ho (i + 1) j y (by simpa using a) (by simpa using b)
      simpa using this
    obtain ⟨a, u, k1, k2, k3⟩ := ho 0 j y rfl rfl
    cases k1
    have hv : σ[j]? = some (some (V.ref a)) := ov.1
    have own : ∀ s, S2[j]? = some s → ownd s = true → SlRel K H' s σ[j]? := by
      intro s hs os
      obtain ⟨t, t1, t2, t3, t4⟩ := h2 j s hs
      rcases t4 with rfl | t4
      · rw [putO_get, if_pos rfl] at t1
        split at t1
        · cases t1; exact ⟨a, u, hv, k2, k3⟩
        · cases t1; exact ⟨a, u, hv, k2, k3⟩
        · rename_i n1 n2
          cases s with
          | own z => exact absurd t1 (n1 z)
          | io z => exact absurd t1 (n2 z)
          | _ => cases os
      · exact t4
    refine ⟨h1.trans putO_length, fun i s h => ?_, fun i l h s hs os => ?_⟩
    · obtain ⟨t, t1, t2, t3, t4⟩ := h2 i s h
      rw [putO_get] at t1
      by_cases ei : i = j
      · subst ei
        rw [if_pos rfl] at t1
        split at t1
        · rename_i z hz
          cases t1
          exact ⟨_, hz, t2, t3, .inr (own s h t2)⟩
        · rename_i z hz
          cases t1
          exact ⟨_, hz, t2, t3, .inr (own s h t2)⟩
        · exact ⟨t, t1, t2, t3, t4⟩
      · rw [if_neg ei] at t1
        exact ⟨t, t1, t2, t3, t4⟩
    · cases i with
      | zero =>
        cases h
        exact own s hs os
      | succ i => exact h3 i l (by simpa using h) s hs os
  | .s j :: os, [], S, S2, R, e, ov, ho => by cases e
  | .s j :: os, .no :: outs, S, S2, R, e, ov, ho => by cases e
  | .s j :: os, .val _ :: outs, S, S2, R, e, ov, ho => by cases e
  | .s j :: os, .own _ :: outs, S, S2, R, e, ov, ho => by cases e
  | .s j :: os, .hid :: outs, S, S2, R, e, ov, ho => by cases e
  | .v x :: os, [], S, S2, R, e, ov, ho => by cases e
  | .v x :: os, _ :: outs, S, S2, [], e, ov, ho => ov.elim
  | .s x :: os, .io _ :: outs, S, S2, [], e, ov, ho => ov.elim
theorem put_ok {os : List OV} {vs : List V} {args outs : List Sl} (R : RelS K S σ H) (ov : OVs K σ H os vs) (e : argsOf S os = some args) (nd : (slotsOf os).Nodup) (F : Fin K args vs H outs H') (ep : putOuts S os outs = some S2) : RelS K S2 σ H' ∧ Frm S σ H S2 σ H' := by
  obtain ⟨Ra, sub⟩ := args_rel R ov e nd
  have keep : ∀ a o, H a = some o → ¬ Owns S σ a → H' a = some o := fun a o h n => F.keep a o h fun w => n (sub a w)
  have ex : Ext H H' := ⟨fun a xs h => keep a _ h (R.notTup h), fun a o u h => keep a _ h (R.notFrz h)⟩
  have hout : ∀ (i j : Nat) (y : PV), os[i]? = some (.s j) → outs[i]? = some (.io y) → ∃ a u, vs[i]? = some (V.ref a) ∧ H' a = some u ∧ RepOb K H' u y := by
    intro i j y h1 h2
    have li : i < args.length := by rw [← (args_len ov e).2]; exact (List.getElem?_eq_some_iff.mp h1).1
    obtain ⟨o, v, g1, g2, g3, g4⟩ := args_get ov e i _ (List.getElem?_eq_getElem li)
    rw [h1] at g1
    cases g1
    obtain ⟨x, q1, q2⟩ := Option.map_eq_some_iff.mp (show (getO S j).map Sl.io = some args[i] from g4)
    exact F.out i x y (by rw [List.getElem?_eq_getElem li, ← q2]) h2
  obtain ⟨h1, h2, h3⟩ := put_slots (K := K) (H := H) (H' := H') vs ep ov hout
  refine ⟨⟨by rw [h1]; exact R.len, fun i s h => ?_, fun i j s t a g1 g2 o1 o2 e1 e2 => ?_⟩, fun a o h n => ⟨keep a o h n, fun w => ?_⟩, fun i s h p => ?_⟩
  · obtain ⟨t, t1, t2, t3, t4⟩ := h2 i s h
    rcases t4 with rfl | t4
    · by_cases hi : ∃ k : Nat, os[k]? = some (OV.s i)
      · obtain ⟨k, hk⟩ := hi
        cases ho : ownd s with
        | true => exact h3 k i hk s h ho
        | false =>
          have q := R.sl i s t1
          cases s with
          | val y => exact (show ∃ v, σ[i]? = some (some v) ∧ Rep K H v y from q).imp fun v z => ⟨z.1, z.2.ext ex⟩
          | no => trivial
          | hid => trivial
          | own y => cases ho
          | io y => cases ho
      · have free : ∀ (x : PV) a u, getO S i = some x → σ[i]? = some (some (V.ref a)) → H a = some u → H' a = some u := by
          intro x a u hx ha hu
          refine F.keep a u hu fun ⟨k, s', k1, k2, k3⟩ => hi ?_
          obtain ⟨o, v, g1, g2, g3, g4⟩ := args_get ov e k s' k1
          cases o with
          | v z => cases g4; cases k2
          | s l =>
            obtain ⟨z, q1, q2⟩ := Option.map_eq_some_iff.mp (show (getO S l).map Sl.io = some s' from g4)
            rw [List.getElem?_map, g2] at k3
            cases k3
            have g3' : σ[l]? = some (some (V.ref a)) := g3
            have : l = i := by
              rcases getO_slot q1 with w1 | w1 <;> rcases getO_slot hx with w2 | w2
              all_goals exact R.dj l i _ _ a w1 w2 rfl rfl g3' ha
            subst this
            exact ⟨k, g1⟩
        have q := R.sl i s t1
        cases s with
        | val y => exact (show ∃ v, σ[i]? = some (some v) ∧ Rep K H v y from q).imp fun v z => ⟨z.1, z.2.ext ex⟩
        | no => trivial
        | hid => trivial
        | own y =>
          obtain ⟨a, u, a1, a2, a3⟩ := R.atOwn t1
          exact ⟨a, u, a1, free y a u (by unfold getO; rw [t1]) a1 a2, a3.ext ex⟩
        | io y =>
          obtain ⟨a, u, a1, a2, a3⟩ := R.atIo t1
          exact ⟨a, u, a1, free y a u (by unfold getO; rw [t1]) a1 a2, a3.ext ex⟩
    · exact t4
  · obtain ⟨t', t1, t2, t3, t4⟩ := h2 i s g1
    obtain ⟨t'', u1, u2, u3, u4⟩ := h2 j t g2
    exact R.dj i j t' t'' a t1 u1 (by rw [← t2]; exact o1) (by rw [← u2]; exact o2) e1 e2
  · obtain ⟨i, s, w1, w2, w3⟩ := w
    obtain ⟨t, t1, t2, t3, t4⟩ := h2 i s w1
    exact n ⟨i, t, t1, by rw [← t2]; exact w2, w3⟩
  · obtain ⟨t, t1, t2, t3, t4⟩ := h2 i s h
    exact ⟨⟨t, t1, by rw [← t3]; exact p⟩, rfl⟩
theorem call_lift {fn : Fn} {fa : Sk → R (List OV)} {Q : VK} (h : LiftE K mg W (callF fn fa) σ H Q) : LiftA K mg W fa σ H fun vs H1 => SpOf K mg fn vs H1 Q (WE W σ) := by
  obtain ⟨S, R0, q⟩ := h
  refine ⟨S, R0, ?_⟩
  unfold callF callG at q
  cases hf : fa S with
  | stuck => rw [hf] at q; exact q
  | exc y S1 => rw [hf] at q; exact q
  | ok os S1 =>
    rw [hf, R.bind_ok] at q
    intro vs H1 ov R1 F1
    by_cases nd : (slotsOf os).Nodup
    · rw [if_pos nd] at q
      cases ha : argsOf S1 os with
      | none => rw [ha] at q; exact (show False from q).elim
      | some args =>
        rw [ha] at q
        dsimp only at q
        refine ⟨args, (args_rel R1 ov ha nd).1, ?_⟩
        cases hn : fn args with
        | stuck => rw [hn] at q; exact q
        | ok r outs =>
          rw [hn] at q
          dsimp only at q
          cases r with
          | l x => exact (show False from q).elim
          | v x =>
            intro v H' rv fi
            cases hp : putOuts S1 os outs with
            | none => rw [hp] at q; exact (show False from q).elim
            | some S2 =>
              rw [hp] at q
              obtain ⟨R2, F2⟩ := put_ok R1 ov ha nd fi hp
              exact q v H' rv R2 (F1.trans F2)
        | exc e outs =>
          rw [hn] at q
          dsimp only at q
          intro cls d H' er fi
          cases hp : putOuts S1 os outs with
          | none => rw [hp] at q; exact (show False from q).elim
          | some S2 =>
            rw [hp] at q
            obtain ⟨R2, F2⟩ := put_ok R1 ov ha nd fi hp
            exact q cls d H' er R2 (F1.trans F2)
    · rw [if_neg nd] at q; exact (show False from q).elim
theorem call_liftL {fn : Fn} {fa : Sk → R (List OV)} {Q : VK} (h : LiftL K mg W (callLF fn fa) σ H Q) : LiftA K mg W fa σ H fun vs H1 => SpOf K mg fn vs H1 Q (WE W σ) := by
  obtain ⟨S, R0, q⟩ := h
  refine ⟨S, R0, ?_⟩
  unfold callLF callG at q
  cases hf : fa S with
  | stuck => rw [hf] at q; exact q
  | exc y S1 => rw [hf] at q; exact q
  | ok os S1 =>
    rw [hf, R.bind_ok] at q
    intro vs H1 ov R1 F1
    by_cases nd : (slotsOf os).Nodup
    · rw [if_pos nd] at q
      cases ha : argsOf S1 os with
      | none => rw [ha] at q; exact (show False from q).elim
      | some args =>
        rw [ha] at q
        dsimp only at q
        refine ⟨args, (args_rel R1 ov ha nd).1, ?_⟩
        cases hn : fn args with
        | stuck => rw [hn] at q; exact q
        | ok r outs =>
          rw [hn] at q
          dsimp only at q
          cases r with
          | v x => exact (show False from q).elim
          | l x =>
            intro p u H' hu ru hfree fi
            cases hp : putOuts S1 os outs with
            | none => rw [hp] at q; exact (show False from q).elim
            | some S2 =>
              rw [hp] at q
              obtain ⟨R2, F2⟩ := put_ok R1 ov ha nd fi hp
              refine q p u H' hu ru (fun w => ?_) (fun o ho => ?_) R2 (F1.trans F2)
              · obtain ⟨h1, h2, h3⟩ := put_slots (K := K) (H := H1) (H' := H') vs hp ov fun i j y a b => by
                  have li : i < args.length := by rw [← (args_len ov ha).2]; exact (List.getElem?_eq_some_iff.mp a).1
                  obtain ⟨o, v, g1, g2, g3, g4⟩ := args_get ov ha i _ (List.getElem?_eq_getElem li)
                  rw [a] at g1
                  cases g1
                  obtain ⟨x, q1, q2⟩ := Option.map_eq_some_iff.mp (show (getO S1 j).map Sl.io = some args[i] from g4)
                  exact fi.out i x y (by rw [List.getElem?_eq_getElem li, ← q2]) b
                obtain ⟨i, s, w1, w2, w3⟩ := w
                obtain ⟨t, t1, t2, t3, t4⟩ := h2 i s w1
                exact R1.notFree hfree ⟨i, t, t1, by rw [← t2]; exact w2, w3⟩
              · by_cases hw : Owns S σ p
                · exact hw
                · have := (F1.keep p o ho hw).1
                  rw [hfree] at this; cases this
        | exc e outs =>
          rw [hn] at q
          dsimp only at q
          intro cls d H' er fi
          cases hp : putOuts S1 os outs with
          | none => rw [hp] at q; exact (show False from q).elim
          | some S2 =>
            rw [hp] at q
            obtain ⟨R2, F2⟩ := put_ok R1 ov ha nd fi hp
            exact q cls d H' er R2 (F1.trans F2)
    · rw [if_neg nd] at q; exact (show False from q).elim
variable {CX : CXT} {k : Nat} {f : Addr} {fd : FuncData} {ps : List Str} {fn : Fn} {fa : Sk → R (List OV)} {x : Str} {p pos : Pos} {e : Expr} {es : List Expr}
theorem ev_call (Fo : FnOk X.prog X.w X.K X.mg X.base CX k f fd ps (SpOf X.K X.mg fn)) (hr : Room k X.A) (hg : Gl X x) (hm : X.mg x = some (.ref f)) (hk : PySem.W.keepIn X.K (.ref f) = true) (hb : Binds X.K fd ps []) (hx : ∀ σ, PassesAt CX X σ (WE W σ))
    (ha : EA X W (e :: es) fa) (hdb : (x == ("__debug__" : Str)) = false) (he : starEach (e :: es) X.env = (false, eval e X.env) :: starEach es X.env) (hpl : (backTo pos (starEach es X.env)).any (·.1) = false) :
    EV X W (.Call (.Name x p) (e :: es) [] pos) (callF fn fa) := ⟨PE.imp (pe_callS Fo hr hg hm hk hb hx ha.pa hdb he hpl) fun σ H Q h => call_lift h⟩
theorem el_call (Fo : FnOk X.prog X.w X.K X.mg X.base CX k f fd ps (SpOf X.K X.mg fn)) (hr : Room k X.A) (hg : Gl X x) (hm : X.mg x = some (.ref f)) (hk : PySem.W.keepIn X.K (.ref f) = true) (hb : Binds X.K fd ps []) (hx : ∀ σ, PassesAt CX X σ (WE W σ))
    (ha : EA X W (e :: es) fa) (hdb : (x == ("__debug__" : Str)) = false) (he : starEach (e :: es) X.env = (false, eval e X.env) :: starEach es X.env) (hpl : (backTo pos (starEach es X.env)).any (·.1) = false) :
    EL X W (.Call (.Name x p) (e :: es) [] pos) (callLF fn fa) := ⟨PE.imp (pe_callS Fo hr hg hm hk hb hx ha.pa hdb he hpl) fun σ H Q h => call_liftL h⟩
/-- a variable as an operand, of whatever kind -/
def opx (j : Nat) : Sk → R OV := fun S => match S[j]? with
  | some (.val x) => .ok (.v x) S
  | some (.own _) => .ok (.s j) S
  | some (.io _) => .ok (.s j) S
  | _ => .stuck
theorem eo_var {j : Nat} {e : Expr} (h : PE X e (tVar j)) : EO X W e (opx j) := by
  refine ⟨PE.imp h fun σ H Q ⟨S, R, q⟩ => ?_⟩
  unfold opx at q
  split at q
  · rename_i x hx
    obtain ⟨v, h1, h2⟩ := R.atVal hx
    exact ⟨v, h1, q v H h2 R .refl⟩
  · rename_i x hx
    obtain ⟨a, u, h1, h2, h3⟩ := R.atOwn hx
    exact ⟨_, h1, q _ H h1 R .refl⟩
  · rename_i x hx
    obtain ⟨a, u, h1, h2, h3⟩ := R.atIo hx
    exact ⟨_, h1, q _ H h1 R .refl⟩
  · exact (show False from q).elim
end
end VL

set_option Elab.async false
set_option linter.all false
set_option autoImplicit false
set_option maxRecDepth 100000
set_option maxHeartbeats 4000000
/-! VZ: list(zip(x, y)). -/
namespace VZ
open PySem PySem.Spec PyProof.Rows
abbrev ZipH (h : Heap) (z TI TO a : Addr) (f : Bool) : Prop := h.get? z = some { cls := .type "zip", dict := none, data := .fields #[rawInt a, .bool f, .bool false, .ref TI, .ref TO], slots := #[] }
section
variable {prog : Program} {w : World} {A : Around} {E : Value → Shared → Prop} {s : Shared} {z TI TO i1 i2 a : Addr} {f : Bool} {oa : Obj} {fp1 fp2 : List Addr} {n1 n2 i : Nat} {P1 P2 : Nat → Value → Prop} {St1 St2 : Nat → Heap → Prop}
theorem zh_item {Q : Value → Shared → Prop} (S : ZipSep2 z TI TO i1 i2 fp1 fp2) (D1 : Draws prog w A i1 fp1 n1 P1 St1) (D2 : Draws prog w A i2 fp2 n2 P2 St2)
    (hz : ZipH s.heap z TI TO a f) (ha : s.heap.get? a = some oa) (hTI : IsTupOf2 s.heap TI (.ref i1) (.ref i2)) (st1 : St1 i s.heap) (st2 : St2 i s.heap) (l1 : i < n1) (l2 : i < n2)
    (hQ : ∀ x1 x2 h' tk, P1 i x1 → P2 i x2 → ZipH h' z TI TO a true → St1 (i + 1) h' → St2 (i + 1) h' → IsTupOf2 h' s.heap.objs.size x1 x2 → h'.objs.size = s.heap.objs.size + 1 →
      (∀ c o, c ≠ z → c ≠ i1 → c ≠ i2 → s.heap.get? c = some o → h'.get? c = some o) → Q (.ref s.heap.objs.size) { s with heap := h', toks := tk }) :
    wpAny (model prog w) A (Builtin.«zip.__next__» ⟨[.ref z], []⟩) (fun fin s' => ∃ v, fin = .done (.ret v) ∧ Q v s') E s := by
  obtain ⟨hp, g, d, tk0, os⟩ := s
  show wpAny _ _ (field (.ref z) 2 >>= _) _ _ _
  refine wpAny_bind (wpAny_field hz rfl (x := .bool false) rfl ?_)
  show wpAny _ _ (field (.ref z) 3 >>= _) _ _ _
  refine wpAny_bind (wpAny_field hz rfl (x := .ref TI) rfl ?_)
  refine wpAny_bind (wpAny_seqItems hTI rfl ?_)
  show wpAny _ _ (Builtin.SmallTypes.ownedTupleIsFree (.ref z) >>= _) _ _ _
  refine wpAny_bind ?_
  unfold Builtin.SmallTypes.ownedTupleIsFree
  refine wpAny_bind (wpAny_field hz rfl (x := rawInt a) rfl ?_)
  show wpAny _ _ (loadIfAlive ((a : Int).toNat) >>= _) _ _ _
  rw [Int.toNat_natCast]
  refine wpAny_bind (PySem.W.kdx_alive ha ?_)
  simp only [Option.isNone_some, Bool.false_eq_true, if_false]
  refine wpAny_bind (wpAny_field hz rfl (x := .bool f) rfl ?_)
  have flag : wpAny (model prog w) A (if (Value.bool f != Value.bool true) = true then do
      setField (Value.ref z) 1 (Value.bool true)
      pure false
    else pure false) (fun b s' => b = false ∧ ∃ g0, s' = ⟨g0, g, d, tk0, os⟩ ∧ ZipH g0 z TI TO a true ∧ Heap.SameBut z hp g0) E ⟨hp, g, d, tk0, os⟩ := by
    cases f with
    | true =>
      rw [if_neg (show ¬ ((Value.bool true != Value.bool true) = true) from Bool.false_ne_true)]
      exact wpAny_pure ⟨rfl, hp, rfl, hz, Heap.SameBut.refl _ _⟩
    | false =>
      rw [if_pos (show (Value.bool false != Value.bool true) = true from rfl)]
      refine wpAny_bind (wpAny_setField_rec hz (by simp) fun h3 he3 hs3 => wpAny_pure ⟨rfl, h3, rfl, he3, hs3⟩)
  refine wpAny_mono flag (fun b s' hb => ?_) fun _ _ x => x
  obtain ⟨rfl, g0, rfl, hz0, hs0⟩ := hb
  rw [if_neg Bool.false_ne_true]
  simp only [Array.forIn_toList, List.forIn_cons, List.forIn_nil, ← Array.forIn_toList]
  refine wpAny_bind (wpAny_bind (wpAny_bind (wpAny_holding ?_)))
  show wpAny _ _ (Builtin.SmallTypes.nextOf (.ref i1) >>= _) _ _ ⟨g0, g, d, tk0, os⟩
  refine wpAny_bind (D1.item i _ _ _ l1 (D1.over st1 hs0 S.zf1) fun x1 p1 tk1 hx1 sn1 hp1 => wpAny_pure (wpAny_pure ?_))
  replace hp1 : Heap.SameBut i1 g0 p1 := hp1
  refine wpAny_bind (wpAny_bind (wpAny_holding ?_))
  show wpAny _ _ (Builtin.SmallTypes.nextOf (.ref i2) >>= _) _ _ ⟨p1, g, d, tk1, os⟩
  refine wpAny_bind (D2.item i _ _ _ l2 (D2.over (D2.over st2 hs0 S.zf2) hp1 S.sep1_2) fun x2 p2 tk2 hx2 sn2 hp2 => wpAny_pure (wpAny_pure (wpAny_pure ?_)))
  replace hp2 : Heap.SameBut i2 p1 p2 := hp2
  refine wpAny_bind (wpAny_newTuple (hsz := by show (2 : Nat) ≤ sizeLine; decide) (wpAny_pure ⟨_, rfl, ?_⟩))
  have hsz : p2.objs.size = hp.objs.size := by rw [hp2.1, hp1.1, hs0.1]
  have kk : ∀ c o, c ≠ z → c ≠ i1 → c ≠ i2 → hp.get? c = some o → p2.get? c = some o := fun c o cz c1 c2 e => hp2.extBut _ _ c2 (hp1.extBut _ _ c1 (hs0.extBut _ _ cz e))
  have up : ∀ c o, p2.get? c = some o → (p2.push { cls := .type "tuple", data := .seq #[x1, x2] }).get? c = some o := fun c o e => Heap.get?_push_of_some _ e
  show Q (.ref p2.objs.size) ⟨p2.push { cls := .type "tuple", data := .seq #[x1, x2] }, g, d, tk2, os⟩
  rw [hsz]
  refine hQ x1 x2 _ tk2 hx1 hx2 (up _ _ (hp2.extBut _ _ S.zi2 (hp1.extBut _ _ S.zi1 hz0))) (D1.frame _ _ _ (D1.over sn1 hp2 S.sep2_1) fun b _ o e => up b o e) (D2.frame _ _ _ sn2 fun b _ o e => up b o e) ?_ ?_ fun c o cz c1 c2 e => up c o (kk c o cz c1 c2 e)
  · show (p2.push _).get? hp.objs.size = _
    rw [← hsz]
    exact Heap.get?_push_size _ rfl
  · show (p2.push _).objs.size = hp.objs.size + 1
    rw [Heap.size_push, hsz]
/-- it ends -/
theorem zh_end {Q : Fin → Shared → Prop} (S : ZipSep2 z TI TO i1 i2 fp1 fp2) (D1 : Draws prog w A i1 fp1 n1 P1 St1) (D2 : Draws prog w A i2 fp2 n2 P2 St2)
    (hz : ZipH s.heap z TI TO a f) (ha : s.heap.get? a = some oa) (hTI : IsTupOf2 s.heap TI (.ref i1) (.ref i2)) (st1 : St1 i s.heap) (st2 : St2 i s.heap) (l1 : i ≤ n1) (l2 : i ≤ n2) (hend : i = n1 ∨ i = n2)
    (hE : ∀ h' tk e, (∀ c o, c ≠ z → c ≠ i1 → c ≠ i2 → s.heap.get? c = some o → h'.get? c = some o) → (∃ o, h'.get? e = some o ∧ o.cls = .type "StopIteration") → E (.ref e) { s with heap := h', toks := tk }) :
    wpAny (model prog w) A (Builtin.«zip.__next__» ⟨[.ref z], []⟩) Q E s := by
  obtain ⟨hp, g, d, tk0, os⟩ := s
  show wpAny _ _ (field (.ref z) 2 >>= _) _ _ _
  refine wpAny_bind (wpAny_field hz rfl (x := .bool false) rfl ?_)
  show wpAny _ _ (field (.ref z) 3 >>= _) _ _ _
  refine wpAny_bind (wpAny_field hz rfl (x := .ref TI) rfl ?_)
  refine wpAny_bind (wpAny_seqItems hTI rfl ?_)
  show wpAny _ _ (Builtin.SmallTypes.ownedTupleIsFree (.ref z) >>= _) _ _ _
  refine wpAny_bind ?_
  unfold Builtin.SmallTypes.ownedTupleIsFree
  refine wpAny_bind (wpAny_field hz rfl (x := rawInt a) rfl ?_)
  show wpAny _ _ (loadIfAlive ((a : Int).toNat) >>= _) _ _ _
  rw [Int.toNat_natCast]
  refine wpAny_bind (PySem.W.kdx_alive ha ?_)
  simp only [Option.isNone_some, Bool.false_eq_true, if_false]
  refine wpAny_bind (wpAny_field hz rfl (x := .bool f) rfl ?_)
  have flag : wpAny (model prog w) A (if (Value.bool f != Value.bool true) = true then do
      setField (Value.ref z) 1 (Value.bool true)
      pure false
    else pure false) (fun b s' => b = false ∧ ∃ g0, s' = ⟨g0, g, d, tk0, os⟩ ∧ ZipH g0 z TI TO a true ∧ Heap.SameBut z hp g0) E ⟨hp, g, d, tk0, os⟩ := by
    cases f with
    | true =>
      rw [if_neg (show ¬ ((Value.bool true != Value.bool true) = true) from Bool.false_ne_true)]
      exact wpAny_pure ⟨rfl, hp, rfl, hz, Heap.SameBut.refl _ _⟩
    | false =>
      rw [if_pos (show (Value.bool false != Value.bool true) = true from rfl)]
      refine wpAny_bind (wpAny_setField_rec hz (by simp) fun h3 he3 hs3 => wpAny_pure ⟨rfl, h3, rfl, he3, hs3⟩)
  refine wpAny_mono flag (fun b s' hb => ?_) fun _ _ x => x
  obtain ⟨rfl, g0, rfl, hz0, hs0⟩ := hb
  rw [if_neg Bool.false_ne_true]
  simp only [Array.forIn_toList, List.forIn_cons, List.forIn_nil, ← Array.forIn_toList]
  refine wpAny_bind (wpAny_bind (wpAny_bind (wpAny_holding ?_)))
  show wpAny _ _ (Builtin.SmallTypes.nextOf (.ref i1) >>= _) _ _ ⟨g0, g, d, tk0, os⟩
  by_cases hlt : i < n1
  · refine wpAny_bind (D1.item i _ _ _ hlt (D1.over st1 hs0 S.zf1) fun x1 p1 tk1 hx1 sn1 hp1 => wpAny_pure (wpAny_pure ?_))
    replace hp1 : Heap.SameBut i1 g0 p1 := hp1
    have hi2 : i = n2 := by omega
    refine wpAny_bind (wpAny_bind (wpAny_holding ?_))
    show wpAny _ _ (Builtin.SmallTypes.nextOf (.ref i2) >>= _) _ _ ⟨p1, g, d, tk1, os⟩
    refine wpAny_bind (D2.done ⟨p1, g, d, tk1, os⟩ _ _ (by rw [← hi2]; exact D2.over (D2.over st2 hs0 S.zf2) hp1 S.sep1_2) fun q e hq he => ?_)
    replace hq : Heap.ExtBut i2 p1 q := hq
    exact hE q tk1 e (fun c o cz c1 c2 x => hq _ _ c2 (hp1.extBut _ _ c1 (hs0.extBut _ _ cz x))) he
  · have hi1 : i = n1 := by omega
    refine wpAny_bind (D1.done ⟨g0, g, d, tk0, os⟩ _ _ (by rw [← hi1]; exact D1.over st1 hs0 S.zf1) fun q e hq he => ?_)
    replace hq : Heap.ExtBut i1 g0 q := hq
    exact hE q tk0 e (fun c o cz c1 c2 x => hq _ _ c1 (hs0.extBut _ _ cz x)) he
/-- the zip at turn i, the new list at S -/
def ZSt (St1 St2 : Nat → Heap → Prop) (z TI TO i1 i2 S : Addr) (i : Nat) (h : Heap) : Prop := IsTupOf2 h TI (.ref i1) (.ref i2) ∧ St1 i h ∧ St2 i h ∧
  ((IsZip h z TI TO .none ∧ ∃ a1 a2, IsTupOf2 h TO a1 a2) ∨ ∃ a f oa, ZipH h z TI TO a f ∧ h.get? a = some oa ∧ a ≠ z ∧ a ≠ TO ∧ a ≠ i1 ∧ a ≠ i2 ∧ a ≠ S)
structure Apart (S z TI TO : Addr) (fp1 fp2 : List Addr) : Prop where
  z : z ≠ S
  TI : TI ≠ S
  TO : TO ≠ S
  f1 : S ∉ fp1
  f2 : S ∉ fp2
theorem ZSt.keep {S' : Addr} {h h' : Heap} (D1 : Draws prog w A i1 fp1 n1 P1 St1) (D2 : Draws prog w A i2 fp2 n2 P2 St2) (Ap : Apart S' z TI TO fp1 fp2) (st : ZSt St1 St2 z TI TO i1 i2 S' i h) (hk : ∀ b o, b ≠ S' → h.get? b = some o → h'.get? b = some o) : ZSt St1 St2 z TI TO i1 i2 S' i h' := by
  obtain ⟨h1, h2, h3, h4⟩ := st
  refine ⟨hk _ _ Ap.TI h1, D1.frame _ _ _ h2 fun b hb o e => hk b o (fun q => Ap.f1 (q ▸ hb)) e, D2.frame _ _ _ h3 fun b hb o e => hk b o (fun q => Ap.f2 (q ▸ hb)) e, ?_⟩
  rcases h4 with ⟨hz, a1, a2, hT⟩ | ⟨a, f, oa, hz, ha, q1, q2, q3, q4, q5⟩
  · exact .inl ⟨hk _ _ Ap.z hz, a1, a2, hk _ _ Ap.TO hT⟩
  · exact .inr ⟨a, f, oa, hk _ _ Ap.z hz, hk _ _ q5 ha, q1, q2, q3, q4, q5⟩
theorem zz_item {S' : Addr} {Q : Option Value → Shared → Prop} (S : ZipSep2 z TI TO i1 i2 fp1 fp2) (D1 : Draws prog w A.in1 i1 fp1 n1 P1 St1) (D2 : Draws prog w A.in1 i2 fp2 n2 P2 St2)
    (st : ZSt St1 St2 z TI TO i1 i2 S' i s.heap) (hS : S' < s.heap.objs.size) (l1 : i < n1) (l2 : i < n2)
    (hQ : ∀ x1 x2 h' tk, P1 i x1 → P2 i x2 → ZSt St1 St2 z TI TO i1 i2 S' (i + 1) h' → IsTupOf2 h' s.heap.objs.size x1 x2 → h'.objs.size = s.heap.objs.size + 1 →
      (∀ c o, c ≠ z → c ≠ TO → c ≠ i1 → c ≠ i2 → s.heap.get? c = some o → h'.get? c = some o) → Q (some (.ref s.heap.objs.size)) { s with heap := h', toks := tk }) :
    wpAny (model prog w) A (pyNext (.ref z)) Q E s := by
  obtain ⟨hTI, st1, st2, st⟩ := st
  have li1 : i1 < s.heap.objs.size := let ⟨o, e⟩ := D1.live _ _ st1; Heap.lt_size e
  have li2 : i2 < s.heap.objs.size := let ⟨o, e⟩ := D2.live _ _ st2; Heap.lt_size e
  rcases st with ⟨hz, a1, a2, hTO⟩ | ⟨a, f, oa, hz, ha, q1, q2, q3, q4, q5⟩
  · refine wpAny_pyNext_zipD2_item S D1 D2 hz hTI hTO st1 st2 l1 l2 fun x1 x2 h' tk y1 y2 b1 b2 d1 d2 b5 b6 b7 => hQ x1 x2 h' tk y1 y2 ⟨b7 _ _ S.TIz S.TITO S.TIi1 S.TIi2 hTI, d1, d2, .inr ⟨s.heap.objs.size, false, _, b1, b5, ?_, ?_, ?_, ?_, ?_⟩⟩ b5 b6 b7
    · exact Nat.ne_of_gt (Heap.lt_size hz)
    · exact Nat.ne_of_gt (Heap.lt_size hTO)
    · exact Nat.ne_of_gt li1
    · exact Nat.ne_of_gt li2
    · exact Nat.ne_of_gt hS
  · have hT : s.TypeIs (.ref z) "zip" := ⟨_, hz, rfl⟩
    unfold pyNext
    refine wpAny_bind (wpAny_attempt (wpAny_callSpecial?_slot (name := Str.ofString "__next__") hT F.slot_zip_next
      (wpAny_call_entry F.slot_zip_next hT F.entry_zip_next
        (zh_item S D1 D2 hz ha hTI st1 st2 l1 l2 fun x1 x2 h' tk y1 y2 b1 d1 d2 b5 b6 b7 => wpAny_pure ?_) (F.args_zip_next_1 _))))
    exact hQ x1 x2 h' tk y1 y2 ⟨b7 _ _ S.TIz S.TIi1 S.TIi2 hTI, d1, d2, .inr ⟨a, true, oa, b1, b7 _ _ q1 q3 q4 ha, q1, q2, q3, q4, q5⟩⟩ b5 b6 fun c o cz cT c1 c2 e => b7 c o cz c1 c2 e
theorem zz_end {S' : Addr} {Q : Option Value → Shared → Prop} (S : ZipSep2 z TI TO i1 i2 fp1 fp2) (D1 : Draws prog w A.in1 i1 fp1 n1 P1 St1) (D2 : Draws prog w A.in1 i2 fp2 n2 P2 St2)
    (st : ZSt St1 St2 z TI TO i1 i2 S' i s.heap) (l1 : i ≤ n1) (l2 : i ≤ n2) (hend : i = n1 ∨ i = n2)
    (hQ : ∀ h' tk, (∀ c o, c ≠ z → c ≠ TO → c ≠ i1 → c ≠ i2 → s.heap.get? c = some o → h'.get? c = some o) → Q none { s with heap := h', toks := tk }) : wpAny (model prog w) A (pyNext (.ref z)) Q E s := by
  obtain ⟨hTI, st1, st2, st⟩ := st
  rcases st with ⟨hz, a1, a2, hTO⟩ | ⟨a, f, oa, hz, ha, q1, q2, q3, q4, q5⟩
  · exact wpAny_pyNext_zipD2_end S D1 D2 hz hTI hTO st1 st2 l1 l2 hend hQ
  · have hT : s.TypeIs (.ref z) "zip" := ⟨_, hz, rfl⟩
    unfold pyNext
    refine wpAny_bind (wpAny_attempt (wpAny_callSpecial?_slot (name := Str.ofString "__next__") hT F.slot_zip_next
      (wpAny_call_entry F.slot_zip_next hT F.entry_zip_next (zh_end S D1 D2 hz ha hTI st1 st2 l1 l2 hend fun h' tk e hk he => ?_) (F.args_zip_next_1 _))))
    obtain ⟨o, ho, hc⟩ := he
    refine wpAny_bind (wpAny_isInstance (T := "StopIteration") (b := true) ⟨o, ho, hc⟩ isSubtype_stop ?_)
    exact wpAny_pure (hQ _ _ fun c o cz _ c1 c2 x => hk c o cz c1 c2 x)
/-- the pairs that were made -/
structure ZG (P1 P2 : Nat → Value → Prop) (lo : Addr) (h : Heap) (as : List Addr) : Prop where
  rise : as.Pairwise (· < ·)
  above : ∀ a ∈ as, lo < a
  pairs : ∀ (j : Nat) (a : Addr), as[j]? = some a → ∃ x1 x2, P1 j x1 ∧ P2 j x2 ∧ IsTupOf2 h a x1 x2
theorem ZG.there {lo : Addr} {h : Heap} {as : List Addr} (g : ZG P1 P2 lo h as) {a : Addr} (ha : a ∈ as) : a < h.objs.size := by
  obtain ⟨j, hj⟩ := List.mem_iff_getElem?.mp ha
  obtain ⟨_, _, _, _, e⟩ := g.pairs j a hj
  exact Heap.lt_size e
theorem zz_loop {S' : Addr} {R : Result → Shared → Prop} (S : ZipSep2 z TI TO i1 i2 fp1 fp2) (D1 : Draws prog w A.in1.in1 i1 fp1 n1 P1 St1) (D2 : Draws prog w A.in1.in1 i2 fp2 n2 P2 St2) (Ap : Apart S' z TI TO fp1 fp2) (lz : z < S') (lTO : TO < S') (li1 : i1 < S') (li2 : i2 < S') (hn : min n1 n2 ≤ sizeLine) (res : Value) {h₁ : Heap}
    (hR : ∀ h' tk acc c as, (∀ b o, b ≠ S' → b ≠ z → b ≠ TO → b ≠ i1 → b ≠ i2 → h₁.get? b = some o → h'.get? b = some o) → h'.get? S' = some { cls := .type "list", dict := none, data := .seq acc c, slots := #[] } → as.length = min n1 n2 → ZG P1 P2 S' h' as →
      acc.toList = as.map Value.ref → R (.ok (.ret res)) { s with heap := h', toks := tk }) :
    ∀ (k i : Nat) (h : Heap) (tk c : Nat) (acc : Array Value) (as : List Addr), min n1 n2 - i = k → i ≤ min n1 n2 → ZSt St1 St2 z TI TO i1 i2 S' i h → (∀ b o, b ≠ S' → b ≠ z → b ≠ TO → b ≠ i1 → b ≠ i2 → h₁.get? b = some o → h.get? b = some o) →
      h.get? S' = some { cls := .type "list", dict := none, data := .seq acc c, slots := #[] } → acc.toList = as.map Value.ref → as.length = i → ZG P1 P2 S' h as →
      codeAny (model prog w) A (.builtin "list.extend.loop" ⟨[.ref S', .ref z, res], []⟩) R { s with heap := h, toks := tk } := by
  have nS : ∀ b, S' < b → b ≠ S' ∧ b ≠ z ∧ b ≠ TO ∧ b ≠ i1 ∧ b ≠ i2 := fun b hb => ⟨Nat.ne_of_gt hb, Nat.ne_of_gt (Nat.lt_trans lz hb), Nat.ne_of_gt (Nat.lt_trans lTO hb), Nat.ne_of_gt (Nat.lt_trans li1 hb), Nat.ne_of_gt (Nat.lt_trans li2 hb)⟩
  intro k
  induction k with
  | zero =>
    intro i h tk c acc as hk hi hst hkeep hS hacc hal hG
    have hin : i = min n1 n2 := by omega
    refine codeAny_builtin F.entry_extend_loop ?_
    rw [Around.under_plainId F.plain_extend_loop _]
    show wpAny _ A.in1 (pyNext (.ref z) >>= _) _ _ _
    refine wpAny_bind (zz_end (A := A.in1) (s := { s with heap := h, toks := tk }) S D1 D2 hst (by omega) (by omega) (by omega) fun h' tk' he => ?_)
    refine wpAny_pure (hR h' tk' acc c as (fun b o b1 b2 b3 b4 b5 e => he b o b2 b3 b4 b5 (hkeep b o b1 b2 b3 b4 b5 e)) (he S' _ Ap.z.symm Ap.TO.symm (Nat.ne_of_gt li1) (Nat.ne_of_gt li2) hS) (by omega) ⟨hG.rise, hG.above, fun j a hj => ?_⟩ hacc)
    obtain ⟨x1, x2, e1, e2, e3⟩ := hG.pairs j a hj
    obtain ⟨_, m2, m3, m4, m5⟩ := nS a (hG.above a (List.mem_of_getElem? hj))
    exact ⟨x1, x2, e1, e2, he a _ m2 m3 m4 m5 e3⟩
  | succ k ih =>
    intro i h tk c acc as hk hi hst hkeep hS hacc hal hG
    have hlt : i < min n1 n2 := by omega
    have hsz : acc.size = i := by rw [← Array.length_toList, hacc, List.length_map, hal]
    have hSl : S' < h.objs.size := Heap.lt_size hS
    refine codeAny_builtin F.entry_extend_loop ?_
    rw [Around.under_plainId F.plain_extend_loop _]
    show wpAny _ A.in1 (pyNext (.ref z) >>= _) _ _ _
    refine wpAny_bind (zz_item (A := A.in1) (s := { s with heap := h, toks := tk }) S D1 D2 hst hSl (by omega) (by omega) fun x1 x2 h' tk' y1 y2 hst' ht hz hkp => ?_)
    dsimp only at ht hz hkp ⊢
    have hS' := hkp S' _ Ap.z.symm Ap.TO.symm (Nat.ne_of_gt li1) (Nat.ne_of_gt li2) hS
    have up : ∀ b o, b ≠ S' → h'.get? b = some o → (h'.update S' (Obj.mapSeq (·.push (Value.ref h.objs.size)))).get? b = some o := fun b o hb e => (Heap.get?_update_other _ _ (Ne.symm hb)).trans e
    show wpAny _ A.in1 (updateSeq S' (·.push (Value.ref h.objs.size)) >>= _) _ _ _
    refine wpAny_bind ?_
    refine wpAny_updateSeq hS' rfl (wpAny_pure ⟨plainId_quiet F.plain_extend_loop _, ih (i + 1) _ tk' _ (acc.push (Value.ref h.objs.size)) (as ++ [h.objs.size]) (by omega) hlt (hst'.keep D1 D2 Ap up)
      (fun b o b1 b2 b3 b4 b5 e => up b o b1 (hkp b o b2 b3 b4 b5 (hkeep b o b1 b2 b3 b4 b5 e))) (Heap.get?_update_self _ hS' rfl) (by rw [Array.toList_push, hacc, List.map_append]; rfl) (by rw [List.length_append, hal]; rfl) ⟨?_, ?_, ?_⟩⟩) (by rw [hsz]; omega) (by show (acc.push (Value.ref h.objs.size)).size ≤ sizeLine + 1; rw [Array.size_push, hsz]; omega)
    · refine List.pairwise_append.mpr ⟨hG.rise, List.pairwise_singleton _ _, fun a ha b hb => ?_⟩
      rw [List.mem_singleton.mp hb]
      exact hG.there ha
    · intro a ha
      rcases List.mem_append.mp ha with ha | ha
      · exact hG.above a ha
      · rw [List.mem_singleton.mp ha]; exact hSl
    · intro j b hj
      rcases Nat.lt_trichotomy j as.length with h1 | h1 | h1
      · rw [List.getElem?_append_left h1] at hj
        obtain ⟨x1', x2', e1, e2, e3⟩ := hG.pairs j b hj
        obtain ⟨m1, m2, m3, m4, m5⟩ := nS b (hG.above b (List.mem_of_getElem? hj))
        exact ⟨x1', x2', e1, e2, up b _ m1 (hkp b _ m2 m3 m4 m5 e3)⟩
      · subst h1
        have hb : h.objs.size = b := by simpa using hj
        subst hb
        exact ⟨x1, x2, by rw [hal]; exact y1, by rw [hal]; exact y2, up _ _ (Nat.ne_of_gt hSl) ht⟩
      · have hnone : (as ++ [h.objs.size])[j]? = none := List.getElem?_eq_none (by rw [List.length_append, List.length_singleton]; omega)
        rw [hnone] at hj; cases hj
end
theorem nolen_zip : typeLookup (.type "zip") "__len__" = pure none := by rw [typeLookup_type, builtinLookup_eq_fast]; kernel_rfl
theorem nohint_zip : typeLookup (.type "zip") "__length_hint__" = pure none := by rw [typeLookup_type, builtinLookup_eq_fast]; kernel_rfl
section
variable {prog : Program} {w : World} {A : Around} {E : Value → Shared → Prop} {s : Shared} {z TI TO i1 i2 : Addr} {fp1 fp2 : List Addr} {n1 n2 : Nat} {P1 P2 : Nat → Value → Prop} {St1 St2 : Nat → Heap → Prop}
theorem zz_hint (hT : s.TypeIs (.ref z) "zip") {Q : Bool → Shared → Prop} (h : Q true s) : wpAny (model prog w) A (Builtin.List.listLengthHint (.ref z)) Q E s := by
  unfold Builtin.List.listLengthHint
  refine wpAny_bind (wpAny_specialOf hT nolen_zip ?_)
  refine wpAny_ite_split (fun hab => absurd hab (by decide)) (fun _ => ?_)
  refine wpAny_ite_split (fun hab => absurd hab (by decide)) (fun _ => ?_)
  show wpAny _ A (specialOf (Value.ref z) (Str.ofString "__length_hint__") >>= _) _ _ _
  refine wpAny_bind (wpAny_specialOf hT nohint_zip ?_)
  exact wpAny_pure h
theorem zz_extend {R : Result → Shared → Prop} {S' : Addr} (S : ZipSep2 z TI TO i1 i2 fp1 fp2) (D1 : Draws prog w A.in1.in1 i1 fp1 n1 P1 St1) (D2 : Draws prog w A.in1.in1 i2 fp2 n2 P2 St2) (Ap : Apart S' z TI TO fp1 fp2) (lz : z < S') (lTO : TO < S') (li1 : i1 < S') (li2 : i2 < S') (hn : min n1 n2 ≤ sizeLine) (res : Value)
    (hz : IsZip s.heap z TI TO .none) (hTI : IsTupOf2 s.heap TI (.ref i1) (.ref i2)) {a1 a2 : Value} (hTO : IsTupOf2 s.heap TO a1 a2) (st1 : St1 0 s.heap) (st2 : St2 0 s.heap) (c₀ : Nat) (hS : s.heap.get? S' = some { cls := .type "list", data := .seq #[] c₀ })
    (hR : ∀ h' tk acc c as, (∀ b o, b ≠ S' → b ≠ z → b ≠ TO → b ≠ i1 → b ≠ i2 → s.heap.get? b = some o → h'.get? b = some o) → h'.get? S' = some { cls := .type "list", dict := none, data := .seq acc c, slots := #[] } → as.length = min n1 n2 → ZG P1 P2 S' h' as →
      acc.toList = as.map Value.ref → R (.ok (.ret res)) { s with heap := h', toks := tk }) :
    wpAny (model prog w) A.in1 (Builtin.List.listExtendWith (.ref S') (.ref z) res)
      (fun fin s' => match fin with | .done f => R (.ok f) s' | .again c' => c'.quiet = true ∧ codeAny (model prog w) A c' R s') (fun e s' => R (.error e) s') s := by
  have st0 : ZSt St1 St2 z TI TO i1 i2 S' 0 s.heap := ⟨hTI, st1, st2, .inl ⟨hz, a1, a2, hTO⟩⟩
  have key : ∀ (h : Heap) (c₁ tk : Nat), (∀ b o, b ≠ S' → s.heap.get? b = some o → h.get? b = some o) → h.get? S' = some { cls := .type "list", data := .seq #[] c₁ } →
      codeAny (model prog w) A (.builtin "list.extend.loop" ⟨[.ref S', .ref z, res], []⟩) R { s with heap := h, toks := tk } := by
    intro h c₁ tk hk hS₁
    exact zz_loop (s := s) (h₁ := s.heap) S D1 D2 Ap lz lTO li1 li2 hn res hR (min n1 n2) 0 h tk c₁ #[] [] (Nat.sub_zero _) (Nat.zero_le _) (st0.keep D1 D2 Ap hk) (fun b o b1 _ _ _ _ e => hk b o b1 e) hS₁ rfl rfl ⟨List.Pairwise.nil, (fun _ ha => nomatch ha), (fun j a hj => by simp at hj)⟩
  have hT : s.TypeIs (.ref z) "zip" := ⟨_, hz, rfl⟩
  unfold Builtin.List.listExtendWith
  refine wpAny_bind (wpAny_typeOf (T := "zip") hT ?_)
  have h1 : Builtin.List.listSameRef (.ref S') (.ref z) = false := by simp [Builtin.List.listSameRef, Ap.z.symm]
  have h2 : (Value.type "zip" == Value.type "list") = false := by decide
  have h3 : (Value.type "zip" == Value.type "tuple") = false := by decide
  simp only [h1, h2, h3, Bool.or_false, Bool.false_eq_true, if_false]
  refine wpAny_bind (wpAny_pyIter_zip hz ?_)
  refine wpAny_bind (wpAny_holding (zz_hint hT ?_))
  refine wpAny_ite_split (fun _ => ?_) (fun hb => absurd rfl hb)
  refine wpAny_bind (wpAny_rule ?_)
  refine wpAny_bind ?_
  show wpAny _ _ (updateSeq S' (·.push .none) >>= fun _ => updateSeq S' (·.pop)) _ _ _
  refine wpAny_bind (wpAny_updateSeq hS rfl ?_)
  have hS₂ := Heap.get?_update_self (Obj.mapSeq (·.push Value.none)) hS rfl
  refine wpAny_updateSeq (hz := by seq_fits) hS₂ rfl ?_
  have hS₃ := Heap.get?_update_self (Obj.mapSeq (·.pop)) hS₂ rfl
  refine wpAny_pure ⟨plainId_quiet F.plain_extend_loop _, key _ _ _ (fun b o hb e => ?_) hS₃⟩
  exact (Heap.get?_update_other _ _ (Ne.symm hb)).trans ((Heap.get?_update_other _ _ (Ne.symm hb)).trans e)
theorem zz_init {R : Result → Shared → Prop} {S' : Addr} (S : ZipSep2 z TI TO i1 i2 fp1 fp2) (D1 : Draws prog w A.in1.in1 i1 fp1 n1 P1 St1) (D2 : Draws prog w A.in1.in1 i2 fp2 n2 P2 St2) (Ap : Apart S' z TI TO fp1 fp2) (lz : z < S') (lTO : TO < S') (li1 : i1 < S') (li2 : i2 < S') (hn : min n1 n2 ≤ sizeLine)
    (hz : IsZip s.heap z TI TO .none) (hTI : IsTupOf2 s.heap TI (.ref i1) (.ref i2)) {a1 a2 : Value} (hTO : IsTupOf2 s.heap TO a1 a2) (st1 : St1 0 s.heap) (st2 : St2 0 s.heap) (hS : s.heap.get? S' = some { cls := .type "list", data := .seq #[] })
    (hR : ∀ h' tk acc c as, (∀ b o, b ≠ S' → b ≠ z → b ≠ TO → b ≠ i1 → b ≠ i2 → s.heap.get? b = some o → h'.get? b = some o) → h'.get? S' = some { cls := .type "list", dict := none, data := .seq acc c, slots := #[] } → as.length = min n1 n2 → ZG P1 P2 S' h' as →
      acc.toList = as.map Value.ref → R (.ok (.ret .none)) { s with heap := h', toks := tk }) :
    wpAny (model prog w) A.in1 (Builtin.«list.__init__» ⟨[.ref S', .ref z], []⟩)
      (fun fin s' => match fin with | .done f => R (.ok f) s' | .again c' => c'.quiet = true ∧ codeAny (model prog w) A c' R s') (fun e s' => R (.error e) s') s := by
  show wpAny _ _ (do let old ← Builtin.List.listItems (.ref S'); Builtin.List.listUpdate (.ref S') (fun _ => #[]); letGo old.toList.reverse; Builtin.List.listExtendWith (.ref S') (.ref z) .none) _ _ s
  refine wpAny_bind ?_
  unfold Builtin.List.listItems
  refine wpAny_bind (wpAny_seqItems hS rfl (wpAny_pure ?_))
  show wpAny _ _ (updateSeq S' (fun _ => #[]) >>= fun _ => letGo (#[] : Array Value).toList.reverse >>= fun _ => Builtin.List.listExtendWith (.ref S') (.ref z) .none) _ _ s
  refine wpAny_bind (wpAny_updateSeq hS rfl ?_)
  have hS₂ := Heap.get?_update_self (Obj.mapSeq (fun _ => (#[] : Array Value))) hS rfl
  have oth : ∀ b o, b ≠ S' → s.heap.get? b = some o → (s.heap.update S' (Obj.mapSeq (fun _ => (#[] : Array Value)))).get? b = some o :=
    fun b o hb e => (Heap.get?_update_other _ _ (Ne.symm hb)).trans e
  refine wpAny_bind (wpAny_letGo ?_)
  refine zz_extend S D1 D2 Ap lz lTO li1 li2 hn .none (oth _ _ Ap.z hz) (oth _ _ Ap.TI hTI) (oth _ _ Ap.TO hTO) (D1.frame _ _ _ st1 fun b hb o e => oth b o (fun q => Ap.f1 (q ▸ hb)) e) (D2.frame _ _ _ st2 fun b hb o e => oth b o (fun q => Ap.f2 (q ▸ hb)) e) _ hS₂ fun h' tk acc c as hk hS' hl hG hacc => ?_
  exact hR h' tk acc c as (fun b o b1 b2 b3 b4 b5 e => hk b o b1 b2 b3 b4 b5 (oth b o b1 e)) hS' hl hG hacc
/-- list(z), z a zip just made -/
theorem zz_call {Q : Value → Shared → Prop} (S : ZipSep2 z TI TO i1 i2 fp1 fp2) (D1 : Draws prog w A.in1.in1.in1 i1 fp1 n1 P1 St1) (D2 : Draws prog w A.in1.in1.in1 i2 fp2 n2 P2 St2) (hf1 : ∀ b ∈ fp1, b < s.heap.objs.size) (hf2 : ∀ b ∈ fp2, b < s.heap.objs.size) (hn : min n1 n2 ≤ sizeLine)
    (hz : IsZip s.heap z TI TO .none) (hTI : IsTupOf2 s.heap TI (.ref i1) (.ref i2)) {a1 a2 : Value} (hTO : IsTupOf2 s.heap TO a1 a2) (st1 : St1 0 s.heap) (st2 : St2 0 s.heap)
    (hQ : ∀ h' tk acc c as, (∀ b o, b ≠ z → b ≠ TO → b ≠ i1 → b ≠ i2 → s.heap.get? b = some o → h'.get? b = some o) → h'.get? s.heap.objs.size = some { cls := .type "list", dict := none, data := .seq acc c, slots := #[] } → as.length = min n1 n2 → ZG P1 P2 s.heap.objs.size h' as →
      acc.toList = as.map Value.ref → Q (.ref s.heap.objs.size) { s with heap := h', toks := tk }) :
    wpAny (model prog w) A (call (.type "list") [.ref z]) Q E s := by
  refine callType_codes (Q₁ := fun obj s₁ => obj = .ref s.heap.objs.size ∧ s₁ = { s with heap := s.heap.push { cls := .type "list", data := .seq #[] } }) F.called_list (F.typeCall_list_1 _) F.entry_list_init
    (code_list_new _ ⟨rfl, rfl⟩) fun obj s₁ h₁ => ?_
  obtain ⟨rfl, rfl⟩ := h₁
  have hS : (s.heap.push { cls := .type "list", data := .seq #[] }).get? s.heap.objs.size = some { cls := .type "list", data := .seq #[] } := Heap.get?_push_size _ rfl
  have k : ∀ b o, s.heap.get? b = some o → (s.heap.push { cls := .type "list", data := .seq #[] }).get? b = some o := fun b o e => Heap.get?_push_of_some _ e
  have lz := Heap.lt_size hz
  have lTO := Heap.lt_size hTO
  have li1 : i1 < s.heap.objs.size := let ⟨o, e⟩ := D1.live _ _ st1; Heap.lt_size e
  have li2 : i2 < s.heap.objs.size := let ⟨o, e⟩ := D2.live _ _ st2; Heap.lt_size e
  refine ⟨⟨_, hS, rfl⟩, F.args_list_init_2 _ _, zz_init (A := A.in1) S D1 D2 ⟨Nat.ne_of_lt lz, Nat.ne_of_lt (Heap.lt_size hTI), Nat.ne_of_lt lTO, fun z => Nat.lt_irrefl _ (hf1 _ z), fun z => Nat.lt_irrefl _ (hf2 _ z)⟩ lz lTO li1 li2 hn (k _ _ hz) (k _ _ hTI) (k _ _ hTO) (D1.frame _ _ _ st1 fun b _ o e => k b o e) (D2.frame _ _ _ st2 fun b _ o e => k b o e) hS fun h' tk acc c as hk hS' hl hG hacc => ?_⟩
  exact ⟨rfl, hQ h' tk acc c as (fun b o b2 b3 b4 b5 e => hk b o (Nat.ne_of_lt (Heap.lt_size e)) b2 b3 b4 b5 (k b o e)) hS' hl hG hacc⟩
end
end VZ

set_option Elab.async false
set_option linter.all false
set_option autoImplicit false
set_option maxRecDepth 100000
set_option maxHeartbeats 4000000
/-! VY: list(zip(x, y)) over the layer; calls with keywords; the script's law. -/
namespace VL
open PySem L2
open PyProof.Rows (boot_list args_cons args_nil callWith_type1 Call_ boot_zip)

section
variable {X : Cx} {W : WX} {K : PySem.W.Frag} {mg : Str → Option Value} {S S0 S1 S2 S' : Sk} {σ σ1 σ' : St} {H H0 H1 H' : Hp}
/-- what a zip walks -/
def Src (h : Heap) (u : Value) (vs : List V) : Prop := ∃ (o : Obj) (Hp' : Heap → Prop) (a : Addr) (its : Array Value), u = .ref a ∧ Vals vs its.toList ∧ a < h.objs.size ∧ Begins u o Hp' ∧ Hp' h ∧
  ∀ (prog : Program) (w : World) (A : Around) (it : Addr), A.handled = none → a ≠ it → ∃ St, Draws prog w A it [it, a] its.size (fun i v => its[i]? = some v) St ∧ ∀ h', Hp' h' → h'.get? it = some o → St 0 h'
theorem src_of {pins : List (Addr × Obj)} {s : Shared} {a : Addr} {vs : List V} (I : Inv X pins σ H s) (h : SqL X.K H a vs ∨ SqT X.K H a vs) : Src s.heap (.ref a) vs ∧ vs.length ≤ sizeLine := by
  rcases h with h | h
  · obtain ⟨its, rv, p, hz⟩ := I.list h
    obtain ⟨ol, hol, x⟩ := p.isList
    exact ⟨⟨_, _, a, its.toArray, rfl, by simpa using rv, Heap.lt_size hol, begins_list a its.toArray, p.isList, fun prog w A it hh ne => ⟨_, Draws.list hh it a ne its.toArray, fun h' q e => ⟨⟨_, e, rfl, rfl⟩, q⟩⟩⟩, hz⟩
  · obtain ⟨its, rv, p, hz⟩ := I.tuple h
    obtain ⟨ol, hol, x⟩ := (show s.heap.IsTuple a its.toArray from p)
    exact ⟨⟨_, _, a, its.toArray, rfl, by simpa using rv, Heap.lt_size hol, begins_tuple a its.toArray, p, fun prog w A it hh ne => ⟨_, Draws.tuple hh it a ne its.toArray, fun h' q e => ⟨⟨_, e, rfl, rfl⟩, q⟩⟩⟩, hz⟩
def putZ : Hp → List Addr → List (V × V) → Hp
  | H, a :: as, p :: ps => putZ (upd H a (.tup [p.1, p.2])) as ps
  | H, _, _ => H
theorem putZ_off {b : Addr} : ∀ (as : List Addr) (ps : List (V × V)) (H : Hp), b ∉ as → putZ H as ps b = H b
  | [], _, _, _ => rfl
  | _ :: _, [], _, _ => rfl
  | a :: as, p :: ps, H, h => by
    show putZ (upd H a (.tup [p.1, p.2])) as ps b = H b
    rw [putZ_off as ps _ (fun z => h (List.mem_cons_of_mem _ z)), upd_ne (fun z => h (by rw [z]; exact List.mem_cons_self))]
theorem putZ_at : ∀ (as : List Addr) (ps : List (V × V)) (H : Hp), as.length = ps.length → as.Nodup → ∀ (j : Nat) (a : Addr), as[j]? = some a → ∃ p, ps[j]? = some p ∧ putZ H as ps a = some (.tup [p.1, p.2])
  | [], [], _, _, _, j, a, h => by simp at h
  | [], _ :: _, _, h, _, _, _, _ => by cases h
  | _ :: _, [], _, h, _, _, _, _ => by cases h
  | a :: as, p :: ps, H, h, hn, j, b, hj => by
    have hn' := List.nodup_cons.mp hn
    cases j with
    | zero =>
      cases hj
      refine ⟨p, rfl, ?_⟩
      show putZ (upd H a (.tup [p.1, p.2])) as ps a = some (.tup [p.1, p.2])
      rw [putZ_off as ps _ hn'.1, upd_same]
    | succ j =>
      obtain ⟨q, h1, h2⟩ := putZ_at as ps (upd H a (.tup [p.1, p.2])) (Nat.succ.inj h) hn'.2 j b (by simpa using hj)
      exact ⟨q, by simpa using h1, h2⟩
def rListZip (K : PySem.W.Frag) : List V → Hp → VK → Prop := fun vs H Q => ∃ (a b : Addr) (xs ys : List V), vs = [.ref a, .ref b] ∧ (SqL K H a xs ∨ SqT K H a xs) ∧ (SqL K H b ys ∨ SqT K H b ys) ∧
  ∀ (H' : Hp) (p : Addr) (as : List Addr), Same H H' → H p = none → H' p = some (.lst (as.map V.ref)) → as.length = (xs.zip ys).length → (∀ (j : Nat) (a : Addr), as[j]? = some a → ∃ q, (xs.zip ys)[j]? = some q ∧ H' a = some (.tup [q.1, q.2])) → Q (.ref p) H'
theorem zip_laid {pins : List (Addr × Obj)} {s : Shared} {h' : Heap} {tk : Nat} {xs ys : List V} {i1 i2 : Array Value} {acc : Array Value} {c : Nat} {as : List Addr} {N : Addr} (I : Inv X pins σ H s) (hN : s.heap.objs.size ≤ N) (hz : xs.length ≤ sizeLine) (r1 : Vals xs i1.toList) (r2 : Vals ys i2.toList)
    (hk : ∀ b o, s.heap.get? b = some o → h'.get? b = some o) (hS : h'.get? N = some { cls := .type "list", dict := none, data := .seq acc c, slots := #[] }) (hl : as.length = min i1.size i2.size) (hG : VZ.ZG (fun i v => i1[i]? = some v) (fun i v => i2[i]? = some v) N h' as) (hacc : acc.toList = as.map Value.ref) :
    ∃ H' : Hp, Same H H' ∧ H N = none ∧ H' N = some (.lst (as.map V.ref)) ∧ as.length = (xs.zip ys).length ∧ (∀ (j : Nat) (a : Addr), as[j]? = some a → ∃ q, (xs.zip ys)[j]? = some q ∧ H' a = some (.tup [q.1, q.2])) ∧ Inv X pins σ H' { s with heap := h', toks := tk } := by
  have l1 : xs.length = i1.size := by rw [r1.length]; simp
  have l2 : ys.length = i2.size := by rw [r2.length]; simp
  have lz : as.length = (xs.zip ys).length := by rw [hl, List.length_zip, l1, l2]
  have hSn : N ∉ as := fun z => Nat.lt_irrefl _ (hG.above _ z)
  have nd : as.Nodup := List.Pairwise.imp (fun {a b} (h : a < b) => Nat.ne_of_lt h) hG.rise
  have new : ∀ t ∈ as, H t = none := fun t ht => I.hok.fresh (Nat.le_trans hN (Nat.le_of_lt (hG.above t ht)))
  have newS : H N = none := I.hok.fresh hN
  have atP := putZ_at as (xs.zip ys) (upd H N (.lst (as.map V.ref))) lz nd
  have off : ∀ b, b ∉ as → b ≠ N → putZ (upd H N (.lst (as.map V.ref))) as (xs.zip ys) b = H b := fun b h1 h2 => by rw [putZ_off as _ _ h1, upd_ne h2]
  have low : ∀ b o, s.heap.get? b = some o → b ∉ as ∧ b ≠ N := fun b o e => by
    have q := Nat.lt_of_lt_of_le (Heap.lt_size e) hN
    exact ⟨fun z => absurd q (Nat.not_lt.mpr (Nat.le_of_lt (hG.above b z))), Nat.ne_of_lt q⟩
  have kp : ∀ b u, H b = some u → (putZ (upd H N (.lst (as.map V.ref))) as (xs.zip ys)) b = some u := fun b u e => by
    rw [off b (fun z => by rw [new b z] at e; cases e) (fun z => by rw [z, newS] at e; cases e)]
    exact e
  have eS : putZ (upd H N (.lst (as.map V.ref))) as (xs.zip ys) N = some (.lst (as.map V.ref)) := by rw [putZ_off as _ _ hSn, upd_same]
  refine ⟨putZ (upd H N (.lst (as.map V.ref))) as (xs.zip ys), kp, newS, eS, lz, atP, ?_⟩
  refine I.call' (ch := []) rfl ⟨fun b o q _ _ _ => hk b o q, fun b o q _ _ _ => ⟨o.slots, hk b o q⟩, fun b o q n _ => ?_, fun b o q _ => ⟨o, hk b o q⟩, fun b xs q => kp b _ q, fun b o u q => kp b _ q, fun b ps q => ⟨#[], by rw [kp b _ q]; simp⟩⟩ (fun b u q => ?_) I.bare fun b z => by simp at z
  · obtain ⟨z1, z2⟩ := low b o q
    rw [off b z1 z2]
    exact n
  · by_cases hb : b ∈ as
    · obtain ⟨j, hj⟩ := List.mem_iff_getElem?.mp hb
      obtain ⟨p, e2, e3⟩ := atP j b hj
      rw [e3] at q
      cases q
      obtain ⟨x1, x2, f1, f2, f3⟩ := hG.pairs j b hj
      obtain ⟨g1, g2⟩ := List.getElem?_zip_eq_some.mp e2
      obtain ⟨u1, k1, k2⟩ := r1.get g1
      obtain ⟨u2, k3, k4⟩ := r2.get g2
      rw [Array.getElem?_toList, f1] at k1
      rw [Array.getElem?_toList, f2] at k3
      cases k1
      cases k3
      exact ⟨by show 2 ≤ sizeLine; decide, [x1, x2], .cons k2 (.cons k4 .nil), ⟨_, f3, rfl, _, rfl⟩⟩
    · by_cases hb2 : b = N
      · rw [hb2] at q ⊢
        rw [eS] at q
        cases q
        refine ⟨by rw [List.length_map, lz, List.length_zip]; omega, acc.toList, c, by rw [hacc]; exact LiI.vals_refs as, ?_⟩
        rw [Array.toArray_toList]
        exact hS
      · rw [off b hb hb2] at q
        exact (I.hok b u q).stay (fun d v _ y => hk d v y) (fun d y => kp d _ y) fun d xs y => kp d _ y
theorem pe_listZip {a b : Expr} {ta : TA} {p p2 pos pos2 : Pos} (hc : X.calm = true) (hg : Gl X "list") (hm : X.mg "list" = none) (hg2 : Gl X "zip") (hm2 : X.mg "zip" = none) (ha : PA X [a, b] ta)
    (hs : starEach [a, b] X.env = (false, eval a X.env) :: starEach [b] X.env) (hpl : (backTo pos2 (starEach [b] X.env)).any (·.1) = false)
    (hs2 : starEach [.Call (.Name "zip" p2) [a, b] [] pos2] X.env = (false, eval (.Call (.Name "zip" p2) [a, b] [] pos2) X.env) :: starEach [] X.env) :
    PE X (.Call (.Name "list" p) [.Call (.Name "zip" p2) [a, b] [] pos2] [] pos) (fun σ H Q => ta σ H fun vs H1 => rListZip X.K vs H1 Q) := by
  refine ⟨fun pins s σ H Q I h => ?_⟩
  refine PyProof.Rows.Call_ (ld_blt I hg hm boot_list (PyProof.Rows.callWith_type1 (args_cons (PyProof.Rows.Call_ (ld_blt I hg2 hm2 PyProof.Rows.boot_zip (PyProof.Rows.callWith_type1 (thn (ha.run pos2 pins s σ H _ I h) fun us s1 ⟨vs, H1, I1, r1, q1⟩ => ?_) hs hpl))) hs2) hs2 rfl))
  obtain ⟨x, y, xs, ys, ex, hx, hy, q⟩ := q1
  subst ex
  cases r1 with
  | cons r rr =>
    cases rr with
    | cons r' rr =>
      cases rr
      cases r
      cases r'
      obtain ⟨⟨o1, P1, a1, t1, e1, v1, lt1, B1, h1, D1⟩, hz1⟩ := src_of I1 hx
      obtain ⟨⟨o2, P2, a2, t2, e2, v2, lt2, B2, h2, D2⟩, hz2⟩ := src_of I1 hy
      cases e1
      cases e2
      refine zip_begins2 B1 B2 h1 h2 fun h' hz hTI hTO g1 g2 hsz hk => args_nil ?_
      obtain ⟨St1, d1, s1'⟩ := D1 X.prog X.w X.A.in1.in1.in1 s1.heap.objs.size (I1.ok.hd hc) (Nat.ne_of_lt lt1)
      obtain ⟨St2, d2, s2'⟩ := D2 X.prog X.w X.A.in1.in1.in1 (s1.heap.objs.size + 1) (I1.ok.hd hc) (Nat.ne_of_lt (Nat.lt_succ_of_lt lt2))
      have sep := zip_sep2 (N := s1.heap.objs.size) (fp1 := [x]) (fp2 := [y]) (fun b hb => by rw [List.mem_singleton.mp hb]; exact lt1) (fun b hb => by rw [List.mem_singleton.mp hb]; exact lt2)
      refine VZ.zz_call (s := { s1 with heap := h' }) sep d1 d2 (fun b hb => ?_) (fun b hb => ?_) ?_ hz hTI hTO (s1' h' (B1.keeps _ _ h1 hk) g1) (s2' h' (B2.keeps _ _ h2 hk) g2) fun h2' tk acc c as hk2 hS hl hG hacc => ?_
      · show b < h'.objs.size
        rw [hsz]
        rcases List.mem_cons.mp hb with e | hb
        · rw [e]; exact Nat.lt_add_of_pos_right (by decide)
        · rw [List.mem_singleton.mp hb]; exact Nat.lt_of_lt_of_le lt1 (Nat.le_add_right _ _)
      · show b < h'.objs.size
        rw [hsz]
        rcases List.mem_cons.mp hb with e | hb
        · rw [e]; exact Nat.add_lt_add_left (by decide) _
        · rw [List.mem_singleton.mp hb]; exact Nat.lt_of_lt_of_le lt2 (Nat.le_add_right _ _)
      · have : xs.length = t1.size := by rw [v1.length]; simp
        omega
      · have kall : ∀ b o, s1.heap.get? b = some o → h2'.get? b = some o := fun b o e => by
          have lb := Heap.lt_size e
          refine hk2 b o ?_ ?_ ?_ ?_ (hk b o e)
          · exact Nat.ne_of_lt (Nat.lt_of_lt_of_le lb (Nat.le_add_right _ _))
          · exact Nat.ne_of_lt (Nat.lt_of_lt_of_le lb (Nat.le_add_right _ _))
          · exact Nat.ne_of_lt lb
          · exact Nat.ne_of_lt (Nat.lt_of_lt_of_le lb (Nat.le_add_right _ _))
        obtain ⟨H', a1', a2', a3, a4, a5, a6⟩ := zip_laid (tk := tk) I1 (show s1.heap.objs.size ≤ h'.objs.size by rw [hsz]; exact Nat.le_add_right _ _) hz1 v1 v2 kall hS hl hG hacc
        exact ⟨.ref h'.objs.size, H', a6, rfl, q H' _ as a1' a2' a3 a4 a5⟩
/-- list(zip(x, y)) -/
def seqP : PV → Option (List PV)
  | .tup xs => some xs
  | .lst xs => some xs
  | _ => none
def sListZip : List PV → Option PV
  | [x, y] => (match seqP x, seqP y with
    | some xs, some ys => some (.lst (zipP xs ys))
    | _, _ => none)
  | _ => none
theorem seqP_sq {v : V} {x : PV} {xs : List PV} (h : RT K H v x) (e : seqP x = some xs) : ∃ a vs, v = .ref a ∧ (SqL K H a vs ∨ SqT K H a vs) ∧ RepA K H vs xs := by
  cases x <;> cases e
  · obtain ⟨a, vs, rfl, h1, r⟩ := h.tup
    exact ⟨a, vs, rfl, .inr (SqT.of h1), r⟩
  · obtain ⟨a, vs, rfl, h1, r⟩ := h.lst
    exact ⟨a, vs, rfl, .inl h1, r⟩
theorem repA_of {vs : List V} {xs : List PV} (hl : vs.length = xs.length) (h : ∀ (j : Nat) (v : V) (x : PV), vs[j]? = some v → xs[j]? = some x → Rep K H v x) : RepA K H vs xs := by
  induction vs generalizing xs with
  | nil => cases xs with
    | nil => exact .nil
    | cons x xs => cases hl
  | cons v vs ih => cases xs with
    | nil => cases hl
    | cons x xs => exact .cons (h 0 v x rfl rfl) (ih (Nat.succ.inj hl) fun j w y a b => h (j + 1) w y (by simpa using a) (by simpa using b))
theorem s_listZip : SemA X OutL (rListZip X.K) sListZip := by
  intro H vs ps z Q h e o
  unfold sListZip at e
  split at e
  · rename_i x y
    obtain ⟨v, w, rfl, h1, h2⟩ := rts2 h
    split at e
    · rename_i xs ys e1 e2
      cases e
      obtain ⟨a, vs, rfl, q1, r1⟩ := seqP_sq h1 e1
      obtain ⟨b, ws, rfl, q2, r2⟩ := seqP_sq h2 e2
      refine ⟨a, b, vs, ws, rfl, q1, q2, fun H' p as sm hp hS hl hat => o p _ H' hp hS (repA_of ?_ fun j v x hv hx => ?_) sm⟩
      · rw [List.length_map, hl, List.length_zip, zipP_length, r1.length, r2.length]
      · rw [List.getElem?_map] at hv
        obtain ⟨a', k1, k2⟩ := Option.map_eq_some_iff.mp hv
        subst k2
        obtain ⟨q, g1, g2⟩ := hat j a' k1
        obtain ⟨g3, g4⟩ := List.getElem?_zip_eq_some.mp g1
        obtain ⟨x', hx', rx⟩ := r1.get g3
        obtain ⟨y', hy', ry⟩ := r2.get g4
        have := zipP_get hx' hy'
        rw [hx] at this
        cases this
        have ex := Ext.of_same sm
        exact .tup g2 (.cons (rx.ext ex) (.cons (ry.ext ex) .nil))
    · cases e
  · cases e
theorem el_listZip {a b : Expr} {fa : Sk → R (List OV)} {p p2 pos pos2 : Pos} (hc : X.calm = true) (hg : Gl X "list") (hm : X.mg "list" = none) (hg2 : Gl X "zip") (hm2 : X.mg "zip" = none) (ha : EA X W [a, b] fa)
    (hs : starEach [a, b] X.env = (false, eval a X.env) :: starEach [b] X.env) (hpl : (backTo pos2 (starEach [b] X.env)).any (·.1) = false)
    (hs2 : starEach [.Call (.Name "zip" p2) [a, b] [] pos2] X.env = (false, eval (.Call (.Name "zip" p2) [a, b] [] pos2) X.env) :: starEach [] X.env) :
    EL X W (.Call (.Name "list" p) [.Call (.Name "zip" p2) [a, b] [] pos2] [] pos) (opA sListZip fa) :=
  ⟨PE.imp (pe_listZip hc hg hm hg2 hm2 ha.pa hs hpl hs2) fun _ _ _ h => liftAL s_listZip h⟩
end
end VL

set_option Elab.async false
set_option linter.all false
set_option autoImplicit false
set_option maxRecDepth 100000
set_option maxHeartbeats 4000000
/-! VX: calls with keywords; a law's end. -/
namespace VL
open PySem L2

section
variable {X : Cx} {W : WX} {K : PySem.W.Frag} {mg : Str → Option Value} {S S0 S1 S2 S' : Sk} {σ σ1 σ' : St} {H H0 H1 H' : Hp}
/-- the items at these places -/
def gI {α : Type} (is : List Nat) (l : List α) : List α := is.filterMap fun i => l[i]?
theorem ovs_get : ∀ {os : List OV} {vs : List V}, OVs K σ H os vs → ∀ i : Nat, (os[i]? = none ∧ vs[i]? = none) ∨ ∃ o v, os[i]? = some o ∧ vs[i]? = some v ∧ OVRel K σ H o v
  | [], [], _, i => .inl ⟨by simp, by simp⟩
  | o :: os, v :: vs, h, 0 => .inr ⟨o, v, rfl, rfl, h.1⟩
  | o :: os, v :: vs, h, i + 1 => by
    rcases ovs_get h.2 i with ⟨a, b⟩ | ⟨o', v', a, b, c⟩
    · exact .inl ⟨by simpa using a, by simpa using b⟩
    · exact .inr ⟨o', v', by simpa using a, by simpa using b, c⟩
  | [], _ :: _, h, _ => h.elim
  | _ :: _, [], h, _ => h.elim
theorem ovs_gI {os : List OV} {vs : List V} (h : OVs K σ H os vs) : ∀ is : List Nat, OVs K σ H (gI is os) (gI is vs)
  | [] => trivial
  | i :: is => by
    unfold gI
    rcases ovs_get h i with ⟨a, b⟩ | ⟨o, v, a, b, c⟩
    · rw [List.filterMap_cons_none a, List.filterMap_cons_none b]
      exact ovs_gI h is
    · rw [List.filterMap_cons_some a, List.filterMap_cons_some b]
      exact ⟨c, ovs_gI h is⟩
theorem vals_get : ∀ {vs : List V} {us : List Value}, Vals vs us → ∀ i : Nat, (vs[i]? = none ∧ us[i]? = none) ∨ ∃ v u, vs[i]? = some v ∧ us[i]? = some u ∧ RelV v u
  | _, _, .nil, i => .inl ⟨by simp, by simp⟩
  | _, _, .cons r rs, 0 => .inr ⟨_, _, rfl, rfl, r⟩
  | _, _, .cons r rs, i + 1 => by
    rcases vals_get rs i with ⟨a, b⟩ | ⟨o', v', a, b, c⟩
    · exact .inl ⟨by simpa using a, by simpa using b⟩
    · exact .inr ⟨o', v', by simpa using a, by simpa using b, c⟩
theorem vals_gI {vs : List V} {us : List Value} (h : Vals vs us) : ∀ is : List Nat, Vals (gI is vs) (gI is us)
  | [] => .nil
  | i :: is => by
    unfold gI
    rcases vals_get h i with ⟨a, b⟩ | ⟨o, v, a, b, c⟩
    · rw [List.filterMap_cons_none a, List.filterMap_cons_none b]
      exact vals_gI h is
    · rw [List.filterMap_cons_some a, List.filterMap_cons_some b]
      exact .cons c (vals_gI h is)
theorem ovs_app : ∀ {os ps : List OV} {vs ws : List V}, OVs K σ H os vs → OVs K σ H ps ws → OVs K σ H (os ++ ps) (vs ++ ws)
  | [], _, [], _, _, h => h
  | _ :: _, _, _ :: _, _, h, k => ⟨h.1, ovs_app h.2 k⟩
  | [], _, _ :: _, _, h, _ => h.elim
  | _ :: _, _, [], _, h, _ => h.elim
theorem ovs_len : ∀ {os : List OV} {vs : List V}, OVs K σ H os vs → vs.length = os.length
  | [], [], _ => rfl
  | _ :: _, _ :: _, h => congrArg Nat.succ (ovs_len h.2)
  | [], _ :: _, h => h.elim
  | _ :: _, [], h => h.elim
structure EK (X : Cx) (W : WX) (ks : List Keyword) (f : Sk → R (List OV)) : Prop where
  pk : PK X ks (LiftA X.K X.mg W f)
theorem PK.imp {ks : List Keyword} {t t' : TA} (h : PK X ks t) (i : ∀ σ H Q, t' σ H Q → t σ H Q) : PK X ks t' := ⟨fun pos pins s σ H Q I q => h.run pos pins s σ H Q I (i σ H Q q)⟩
theorem ek_nil : EK X W [] aNil := ⟨PK.imp pk_nil fun σ H Q ⟨S, R0, q⟩ => q [] H trivial R0 .refl⟩
theorem ek_cons {e : Expr} {ks : List Keyword} {nm : Option Str} {kpos : Pos} {a : Sk → R OV} {r : Sk → R (List OV)} (ha : EO X W e a) (hr : EK X W ks r) : EK X W (⟨nm, e, kpos⟩ :: ks) (aCons a r) := by
  refine ⟨PK.imp (pk_cons ha.pe hr.pk) fun σ H Q ⟨S, R0, q⟩ => ⟨S, R0, ?_⟩⟩
  unfold aCons at q
  cases h1 : a S with
  | stuck => rw [h1] at q; exact q
  | exc x S1 => rw [h1] at q; exact q
  | ok o S1 =>
    rw [h1, R.bind_ok] at q
    intro v H1 ov R1 F1
    refine ⟨S1, R1, ?_⟩
    cases h2 : r S1 with
    | stuck => rw [h2] at q; exact q
    | exc x S2 => rw [h2] at q; exact fun c d H2 er R2 F2 => q c d H2 er R2 (F1.trans F2)
    | ok os S2 =>
      rw [h2, R.bind_ok] at q
      exact fun vs H2 ovs R2 F2 => q (v :: vs) H2 ⟨ov.ext (R1.ext F2), ovs⟩ R2 (F1.trans F2)
/-- positional arguments, keywords, then the parameters' order -/
def fka (n m : Nat) (is : List Nat) (fa fk : Sk → R (List OV)) : Sk → R (List OV) := fun S => (fa S).bind fun os S1 => (fk S1).bind fun ks S2 => if os.length = n ∧ ks.length = m then .ok (gI is (os ++ ks)) S2 else .stuck
theorem fka_lift {n m : Nat} {is : List Nat} {fa fk : Sk → R (List OV)} {T : List V → Hp → Prop} (h : LiftA K mg W (fka n m is fa fk) σ H T) : LiftA K mg W fa σ H fun vs H1 => LiftA K mg W fk σ H1 fun zs H2 => vs.length = n ∧ zs.length = m ∧ T (gI is (vs ++ zs)) H2 := by
  obtain ⟨S, R0, q⟩ := h
  refine ⟨S, R0, ?_⟩
  unfold fka at q
  cases h1 : fa S with
  | stuck => rw [h1] at q; exact q
  | exc x S1 => rw [h1] at q; exact q
  | ok os S1 =>
    rw [h1, R.bind_ok] at q
    intro vs H1 ov R1 F1
    refine ⟨S1, R1, ?_⟩
    cases h2 : fk S1 with
    | stuck => rw [h2] at q; exact q
    | exc x S2 => rw [h2] at q; exact fun c d H2 er R2 F2 => q c d H2 er R2 (F1.trans F2)
    | ok ks S2 =>
      rw [h2, R.bind_ok] at q
      intro zs H2 ov2 R2 F2
      by_cases hl : os.length = n ∧ ks.length = m
      · rw [if_pos hl] at q
        have e := R1.ext F2
        exact ⟨(ovs_len ov).trans hl.1, (ovs_len ov2).trans hl.2, q _ H2 (ovs_gI (ovs_app (ov.ext e) ov2) is) R2 (F1.trans F2)⟩
      · rw [if_neg hl] at q; exact (show False from q).elim
theorem kbn_of {x qual : Str} {params : Arguments} {body : List Stmt} {scope : Scope} {kws : List (Str × V)} {f : Addr} {fd : FuncData} {ps : List Str} (F : FunD K x qual params body scope [] kws f fd) (n : Nat) (ks : List Str) (is : List Nat)
    (h : ∀ (kV doc pm : Value) (an : Option Addr) (cdv ct : Value) (us ws : List Value), us.length = n → ws.length = ks.length → bindArgs (PySem.W.fnOf x qual params body scope .none kV doc pm an cdv ct) ⟨us, ks.zip ws⟩ = pure (ps.zip (gI is (us ++ ws)))) :
    KBn K fd ps n ks (fun us ws => gI is (us ++ ws)) (fun vs zs => gI is (vs ++ zs)) := by
  obtain ⟨oc, od, dV, kV, doc, pm, an, cdv, ct, osl, rfl, lk, hcd, hD, hK⟩ := F.ex
  rcases hD with ⟨_, rfl⟩ | ⟨e, _⟩
  · exact ⟨fun s us ws _ l1 l2 => .of_eq (h kV doc pm an cdv ct us ws l1 l2), fun r1 r2 => vals_gI (r1.append r2) is⟩
  · exact absurd rfl e
section
variable {CX : CXT} {k n : Nat} {f : Addr} {fd : FuncData} {ps ks : List Str} {sp : Sp} {E : St → XK} {x : Str} {p pos : Pos} {e : Expr} {es : List Expr} {kws : List Keyword} {t tk : TA} {g : List Value → List Value → List Value} {gV : List V → List V → List V}
def tCallNS (n m : Nat) (sp : Sp) (gV : List V → List V → List V) (E : St → XK) (t tk : TA) : TE := fun σ H Q => t σ H fun vs H1 => tk σ H1 fun zs H2 => vs.length = n ∧ zs.length = m ∧ sp (gV vs zs) H2 Q (E σ)
theorem pe_callNS (F : FnOk X.prog X.w X.K X.mg X.base CX k f fd ps sp) (hr : Room k X.A) (hg : Gl X x) (hm : X.mg x = some (.ref f)) (hk : PySem.W.keepIn X.K (.ref f) = true) (hb : KBn X.K fd ps n ks g gV) (hx : ∀ σ, PassesAt CX X σ (E σ))
    (ha : PA X (e :: es) t) (hkw : PK X kws tk) (hall : (backToKw pos (keywordEach kws X.env)).all (·.1.isSome) = true) (hks : (backToKw pos (keywordEach kws X.env)).filterMap (·.1) = ks)
    (hdb : (x == ("__debug__" : Str)) = false) (he : starEach (e :: es) X.env = (false, eval e X.env) :: starEach es X.env)
    (hpl : ((backTo pos (starEach (e :: es) X.env)).any (·.1) || (backToKw pos (keywordEach kws X.env)).any (·.1.isNone)) = false) :
    PE X (.Call (.Name x p) (e :: es) kws pos) (tCallNS n ks.length sp gV E t tk) := by
  refine ⟨fun pins s σ H Q I h => wpAny_Call_Name_kw (ld_glob I hg hm ?_ hdb)⟩
  refine PySem.W.callWith_KW (h₀ := X.base) I.ok.mod.kin hk hall (thn (ha.run pos pins s σ H _ I h) fun us s1 ⟨vs, H1, I1, r, q⟩ => ?_) hpl he
  refine thn (hkw.run pos pins s1 σ H1 _ I1 q) fun ws s2 ⟨zs, H2, I2, rz, l1, l2, q2⟩ => ⟨I2.kIn, ?_⟩
  rw [hks]
  have r2 := hb.rel r rz
  refine wpAny_call (codeAny_mono (F.run X.A X.stack s2 H2 ⟨us, ks.zip ws⟩ (g us ws) (gV vs zs) Q (E σ) hr I2.env0 (hb.to s2 us ws I2.kIn (r.length.symm.trans l1) (rz.length.symm.trans l2)) r2 q2) fun res s' hq => ?_)
  match res, hq with
  | .error e, hq => exact hx σ pins H2 s2 e s' I2 hq
  | .ok (.ret u), hq => exact I2.after hq
  | .ok .next, hq => exact False.elim hq
  | .ok .brk, hq => exact False.elim hq
  | .ok .cont, hq => exact False.elim hq
variable {fn : Fn} {fa fk : Sk → R (List OV)} {is : List Nat}
theorem ev_callN (Fo : FnOk X.prog X.w X.K X.mg X.base CX k f fd ps (SpOf X.K X.mg fn)) (hr : Room k X.A) (hg : Gl X x) (hm : X.mg x = some (.ref f)) (hk : PySem.W.keepIn X.K (.ref f) = true) (hb : KBn X.K fd ps n ks (fun us ws => gI is (us ++ ws)) (fun vs zs => gI is (vs ++ zs))) (hx : ∀ σ, PassesAt CX X σ (WE W σ))
    (ha : EA X W (e :: es) fa) (hkw : EK X W kws fk) (hall : (backToKw pos (keywordEach kws X.env)).all (·.1.isSome) = true) (hks : (backToKw pos (keywordEach kws X.env)).filterMap (·.1) = ks)
    (hdb : (x == ("__debug__" : Str)) = false) (he : starEach (e :: es) X.env = (false, eval e X.env) :: starEach es X.env)
    (hpl : ((backTo pos (starEach (e :: es) X.env)).any (·.1) || (backToKw pos (keywordEach kws X.env)).any (·.1.isNone)) = false) :
    EV X W (.Call (.Name x p) (e :: es) kws pos) (callF fn (fka n ks.length is fa fk)) := ⟨PE.imp (pe_callNS Fo hr hg hm hk hb hx ha.pa hkw.pk hall hks hdb he hpl) fun σ H Q h => fka_lift (call_lift h)⟩
theorem el_callN (Fo : FnOk X.prog X.w X.K X.mg X.base CX k f fd ps (SpOf X.K X.mg fn)) (hr : Room k X.A) (hg : Gl X x) (hm : X.mg x = some (.ref f)) (hk : PySem.W.keepIn X.K (.ref f) = true) (hb : KBn X.K fd ps n ks (fun us ws => gI is (us ++ ws)) (fun vs zs => gI is (vs ++ zs))) (hx : ∀ σ, PassesAt CX X σ (WE W σ))
    (ha : EA X W (e :: es) fa) (hkw : EK X W kws fk) (hall : (backToKw pos (keywordEach kws X.env)).all (·.1.isSome) = true) (hks : (backToKw pos (keywordEach kws X.env)).filterMap (·.1) = ks)
    (hdb : (x == ("__debug__" : Str)) = false) (he : starEach (e :: es) X.env = (false, eval e X.env) :: starEach es X.env)
    (hpl : ((backTo pos (starEach (e :: es) X.env)).any (·.1) || (backToKw pos (keywordEach kws X.env)).any (·.1.isNone)) = false) :
    EL X W (.Call (.Name x p) (e :: es) kws pos) (callLF fn (fka n ks.length is fa fk)) := ⟨PE.imp (pe_callNS Fo hr hg hm hk hb hx ha.pa hkw.pk hall hks hdb he hpl) fun σ H Q h => fka_lift (call_liftL h)⟩
end
/-- what may be raised in a block: nothing -/
theorem passF (CX : CXT) (hX : ∀ H s e s', CX X.stack H s (fun _ _ _ => False) e s' → False) (σ : St) : PassesAt CX X σ (WE WF σ) := fun _ H s e s' _ c => (hX H s e s' c).elim
theorem passFL (σ : St) : PassesAt (L2.CX X.prog X.w) X σ (WE WF σ) := fun _ _ _ _ _ _ h => by
  obtain ⟨_, _, _, _, _, _, _, _, _, _, _, _, z⟩ := h
  exact z.elim
/-! ### the law -/
theorem script_sp {fn : Fn} {a : Addr} {ns : List Int} {outs : List Sl} (hf : fn [.val (.scr ns)] = .ok (.v (.bl true)) outs) (hO : Only H) (hS : SqL K H a (ns.map V.int)) : SpOf K mg fn [.ref a] H (fun v _ => v = .bl true) fun _ _ _ => False := by
  have fz : FzL K H a (ns.map V.int) := by
    rcases hS with (h | h) | h
    · rcases hO a with n | ⟨o, xs, e⟩
      · rw [n] at h; cases h
      · rw [e] at h; cases h
    · exact .inl h
    · exact .inr h
  refine ⟨[.val (.scr ns)], ⟨rfl, fun i s h => ?_, fun i j s t b h1 h2 o1 o2 => ?_⟩, ?_⟩
  · cases i with
    | zero => cases h; exact ⟨_, rfl, .scr fz⟩
    | succ i => simp at h
  · cases i with
    | zero => cases h1; cases o1
    | succ i => simp at h1
  · rw [hf]
    intro v H' rv _
    cases rv
    rfl
/-- the walk's end: the law's def gives True of every script -/
theorem walk_end {l : PySem.W.OpenLaw} {n k : Nat} {q : Program} {loose : List Str} {XP : (Str → Option Value) → Heap → Prop} {YP : World → Heap → Prop} {d : DefRec} {x : Str} {fn : Fn}
    (hn : l.most = some n) (hn2 : n ≤ sizeLine) (hdf : d.params.defaults = []) (hr : Room k callerA)
    (hf : ∀ ns : List Int, ns.length ≤ n → ∃ outs, fn [.val (.scr ns)] = .ok (.v (.bl true)) outs)
    (F : ∀ (w : World) (mg : Str → Option Value) (fa : Addr) (h : Heap), YP w h → h.Ns mainGlobals mg → mg d.name = some (.ref fa) →
      ∃ (K : PySem.W.Frag) (fd : FuncData), K.In h ∧ (∀ (s : Shared) (u : Value), BindsTo s fd ⟨[u], []⟩ [(x, u)]) ∧
        ∀ base : Heap, K.In base → base.Ns mainGlobals mg → FnOk l.prog w K mg base (L2.CX l.prog w) k fa fd [x] (SpOf K mg fn)) :
    PySem.W.WalkO q loose XP YP l.row.toRowW d [] (fun f vs => PySem.call f vs) := by
  refine Att.attach_call hn hdf fun w s₀ s₁ mg mb fa o pm cd doc a vs ns G Y ho hd hcd hmg hobj hints hlen hg => ?_
  obtain ⟨K, fd, KX, hb, hF⟩ := F w mg fa _ Y G.T.g hmg
  obtain ⟨outs, ho⟩ := hf ns hlen
  exact law_call KX G.T.g G.T.b G.T.builtins G.T.nolimit hg hobj hints (Nat.le_trans hlen hn2) hr hF hb (fun H hO hS => script_sp ho hO hS) fun H e s' z => by
    obtain ⟨_, _, _, _, _, _, _, _, _, _, _, _, z⟩ := z
    exact z
end
end VL

set_option Elab.async false
set_option linter.all false
set_option autoImplicit false
set_option maxRecDepth 100000
set_option maxHeartbeats 4000000
/-! VW: an expression whose value may be a new object. -/
namespace VL
open PySem L2

section
variable {X : Cx} {W : WX} {K : PySem.W.Frag} {mg : Str → Option Value} {S S0 S1 S2 S' : Sk} {σ σ1 σ' : St} {H H0 H1 H' : Hp}
def RV.val : RV → PV
  | .v x => x
  | .l x => x
def PostX (K : PySem.W.Frag) (mg : Str → Option Value) (W : WX) (S : Sk) (σ : St) (H : Hp) (r : R RV) (Q : VK) : Prop := match r with
  | .stuck => False
  | .ok (.v x) S' => ∀ v H', Rep K H' v x → RelS K S' σ H' → Frm S σ H S' σ H' → Q v H'
  | .ok (.l x) S' => ∀ p u H', H' p = some u → RepOb K H' u x → ¬ Owns S' σ p → (∀ o, H p = some o → Owns S σ p) → RelS K S' σ H' → Frm S σ H S' σ H' → Q (.ref p) H'
  | .exc e S' => ∀ cls d H', ExnRep K mg H' cls d e → RelS K S' σ H' → Frm S σ H S' σ H' → W cls d σ H'
def LiftX (K : PySem.W.Frag) (mg : Str → Option Value) (W : WX) (f : Sk → R RV) : TE := fun σ H Q => ∃ S, RelS K S σ H ∧ PostX K mg W S σ H (f S) Q
structure EX (X : Cx) (W : WX) (e : Expr) (f : Sk → R RV) : Prop where
  pe : PE X e (LiftX X.K X.mg W f)
variable {e : Expr} {f : Sk → R PV} {g : Sk → R RV} {pos : Pos}
def xV (f : Sk → R PV) : Sk → R RV := fun S => (f S).bind fun x S1 => .ok (.v x) S1
def xL (f : Sk → R PV) : Sk → R RV := fun S => (f S).bind fun x S1 => .ok (.l x) S1
def fz (g : Sk → R RV) : Sk → R PV := fun S => (g S).bind fun r S1 => .ok r.val S1
def lx (g : Sk → R RV) : Sk → R PV := fun S => (g S).bind fun r S1 => match r with
  | .l x => .ok x S1
  | .v _ => .stuck
theorem ex_v (h : EV X W e f) : EX X W e (xV f) := ⟨PE.imp h.pe fun σ H Q ⟨S, R0, q⟩ => ⟨S, R0, by
  unfold xV at q
  cases hf : f S with
  | stuck => rw [hf] at q; exact q
  | exc y S1 => rw [hf] at q; exact q
  | ok x S1 => rw [hf] at q; exact q⟩⟩
theorem ex_l (h : EL X W e f) : EX X W e (xL f) := ⟨PE.imp h.pe fun σ H Q ⟨S, R0, q⟩ => ⟨S, R0, by
  unfold xL at q
  cases hf : f S with
  | stuck => rw [hf] at q; exact q
  | exc y S1 => rw [hf] at q; exact q
  | ok x S1 => rw [hf] at q; exact q⟩⟩
theorem el_x (h : EX X W e g) : EL X W e (lx g) := ⟨PE.imp h.pe fun σ H Q ⟨S, R0, q⟩ => ⟨S, R0, by
  unfold lx at q
  cases hf : g S with
  | stuck => rw [hf] at q; exact q
  | exc y S1 => rw [hf] at q; exact q
  | ok x S1 =>
    rw [hf] at q
    cases x with
    | v x => exact (show False from q).elim
    | l x => exact q⟩⟩
theorem ev_x (h : EX X W e g) : EV X W e (fz g) := by
  refine ⟨⟨fun pins s σ H Q I ⟨S, R0, q⟩ => ?_⟩⟩
  have hL : LiftX X.K X.mg W g σ H fun v H1 => (∃ x S', g S = .ok (.v x) S' ∧ Rep X.K H1 v x ∧ RelS X.K S' σ H1 ∧ Frm S σ H S' σ H1) ∨ ∃ p u x S', v = .ref p ∧ H1 p = some u ∧ RepOb X.K H1 u x ∧ g S = .ok (.l x) S' ∧ ¬ Owns S' σ p ∧ (∀ o, H p = some o → Owns S σ p) ∧ RelS X.K S' σ H1 ∧ Frm S σ H S' σ H1 := by
    refine ⟨S, R0, ?_⟩
    unfold fz at q
    cases hf : g S with
    | stuck => rw [hf] at q; exact q
    | exc y S1 => rw [hf] at q; exact q
    | ok r S1 =>
      cases r with
      | v x => exact fun v H1 h1 h2 h3 => .inl ⟨x, S1, rfl, h1, h2, h3⟩
      | l x => exact fun p u H1 h1 h2 h3 h4 h5 h6 => .inr ⟨p, u, x, S1, rfl, h1, h2, rfl, h3, h4, h5, h6⟩
  refine thn (h.pe.run pins s σ H _ I hL) fun w s1 ⟨v, H1, I1, rv, hd⟩ => ?_
  unfold fz at q
  rcases hd with ⟨x, S', hf, h1, h2, h3⟩ | ⟨p, u, x, S', ev, hu, ru, hf, hn, hw, R1, F1⟩
  · rw [hf] at q
    exact ⟨v, H1, I1, rv, q v H1 h1 h2 h3⟩
  · subst ev
    obtain ⟨o, I2⟩ := freeze_inv I1 hu ru
    have ex := freeze_ext (o := o) R1 hu ru
    rw [hf] at q
    refine ⟨.ref p, _, I2, rv, q _ _ ((ru.ext ex).frz upd_same) (R1.freeze hu ru hn) ⟨fun a ob ha na => ?_, F1.io⟩⟩
    have z := F1.keep a ob ha na
    refine ⟨?_, z.2⟩
    rw [upd_ne (fun e => ?_)]
    · exact z.1
    · subst e
      exact na (hw ob ha)
/-! ### returns, stores, calls -/
def retX (g : Sk → R RV) : Sk → O := fun S => (g S).toO fun r S1 => .rt r S1
theorem vs_retX (h : EX X W e g) : VS X W (.Return (some e) pos) (retX g) := by
  refine ⟨PS.imp (ps_ret h.pe) fun D σ H ⟨S, R0, q⟩ => ⟨S, R0, ?_⟩⟩
  unfold retX at q
  cases hf : g S with
  | stuck => rw [hf] at q; exact q
  | exc y S1 => rw [hf] at q; exact fun c d H1 er R1 F1 => q c d σ H1 er R1 F1
  | ok r S1 =>
    rw [hf] at q
    cases r with
    | v x => exact fun v H1 rv R1 F1 => q v σ H1 rv R1 F1
    | l x => exact fun p u H1 h1 h2 h3 h4 R1 F1 => q p u σ H1 h1 h2 h3 h4 R1 F1
def callX (fn : Fn) (fa : Sk → R (List OV)) : Sk → R RV := callG fn some fa
theorem call_liftX {fn : Fn} {fa : Sk → R (List OV)} {Q : VK} (h : LiftX K mg W (callX fn fa) σ H Q) : LiftA K mg W fa σ H fun vs H1 => SpOf K mg fn vs H1 Q (WE W σ) := by
  obtain ⟨S, R0, q⟩ := h
  refine ⟨S, R0, ?_⟩
  unfold callX callG at q
  cases hf : fa S with
  | stuck => rw [hf] at q; exact q
  | exc y S1 => rw [hf] at q; exact q
  | ok os S1 =>
    rw [hf, R.bind_ok] at q
    intro vs H1 ov R1 F1
    by_cases nd : (slotsOf os).Nodup
    · rw [if_pos nd] at q
      cases ha : argsOf S1 os with
      | none => rw [ha] at q; exact (show False from q).elim
      | some args =>
        rw [ha] at q
        dsimp only at q
        refine ⟨args, (args_rel R1 ov ha nd).1, ?_⟩
        cases hn : fn args with
        | stuck => rw [hn] at q; exact q
        | ok r outs =>
          rw [hn] at q
          dsimp only at q
          cases r with
          | v x =>
            intro v H' rv fi
            cases hp : putOuts S1 os outs with
            | none => rw [hp] at q; exact (show False from q).elim
            | some S2 =>
              rw [hp] at q
              obtain ⟨R2, F2⟩ := put_ok R1 ov ha nd fi hp
              exact q v H' rv R2 (F1.trans F2)
          | l x =>
            intro p u H' hu ru hfree fi
            cases hp : putOuts S1 os outs with
            | none => rw [hp] at q; exact (show False from q).elim
            | some S2 =>
              rw [hp] at q
              obtain ⟨R2, F2⟩ := put_ok R1 ov ha nd fi hp
              refine q p u H' hu ru (fun w => ?_) (fun o ho => ?_) R2 (F1.trans F2)
              · obtain ⟨h1, h2, h3⟩ := put_slots (K := K) (H := H1) (H' := H') vs hp ov fun i j y a b => by
                  have li : i < args.length := by rw [← (args_len ov ha).2]; exact (List.getElem?_eq_some_iff.mp a).1
                  obtain ⟨o, v, g1, g2, g3, g4⟩ := args_get ov ha i _ (List.getElem?_eq_getElem li)
                  rw [a] at g1
                  cases g1
                  obtain ⟨x, q1, q2⟩ := Option.map_eq_some_iff.mp (show (getO S1 j).map Sl.io = some args[i] from g4)
                  exact fi.out i x y (by rw [List.getElem?_eq_getElem li, ← q2]) b
                obtain ⟨i, s, w1, w2, w3⟩ := w
                obtain ⟨t, t1, t2, t3, t4⟩ := h2 i s w1
                exact R1.notFree hfree ⟨i, t, t1, by rw [← t2]; exact w2, w3⟩
              · by_cases hw : Owns S σ p
                · exact hw
                · have := (F1.keep p o ho hw).1
                  rw [hfree] at this; cases this
        | exc e outs =>
          rw [hn] at q
          dsimp only at q
          intro cls d H' er fi
          cases hp : putOuts S1 os outs with
          | none => rw [hp] at q; exact (show False from q).elim
          | some S2 =>
            rw [hp] at q
            obtain ⟨R2, F2⟩ := put_ok R1 ov ha nd fi hp
            exact q cls d H' er R2 (F1.trans F2)
    · rw [if_neg nd] at q; exact (show False from q).elim
section
variable {CX : CXT} {k n : Nat} {f : Addr} {fd : FuncData} {ps ks : List Str} {x : Str} {p : Pos} {es : List Expr} {kws : List Keyword} {fn : Fn} {fa fk : Sk → R (List OV)} {is : List Nat}
theorem ex_call (Fo : FnOk X.prog X.w X.K X.mg X.base CX k f fd ps (SpOf X.K X.mg fn)) (hr : Room k X.A) (hm : X.mg x = some (.ref f)) (hk : PySem.W.keepIn X.K (.ref f) = true) (hb : Binds X.K fd ps []) (hx : ∀ σ, PassesAt CX X σ (WE W σ))
    (ha : EA X W (e :: es) fa) (hg : Gl X x := by rfl) (hdb : (x == ("__debug__" : Str)) = false := by decide) (he : starEach (e :: es) X.env = (false, eval e X.env) :: starEach es X.env := by rfl) (hpl : (backTo pos (starEach es X.env)).any (·.1) = false := by rfl) :
    EX X W (.Call (.Name x p) (e :: es) [] pos) (callX fn fa) := ⟨PE.imp (pe_callS Fo hr hg hm hk hb hx ha.pa hdb he hpl) fun σ H Q h => call_liftX h⟩
theorem ex_callN (Fo : FnOk X.prog X.w X.K X.mg X.base CX k f fd ps (SpOf X.K X.mg fn)) (hr : Room k X.A) (hm : X.mg x = some (.ref f)) (hk : PySem.W.keepIn X.K (.ref f) = true) (hb : KBn X.K fd ps n ks (fun us ws => gI is (us ++ ws)) (fun vs zs => gI is (vs ++ zs))) (hx : ∀ σ, PassesAt CX X σ (WE W σ))
    (ha : EA X W (e :: es) fa) (hkw : EK X W kws fk) (hg : Gl X x := by rfl) (hall : (backToKw pos (keywordEach kws X.env)).all (·.1.isSome) = true := by rfl) (hks : (backToKw pos (keywordEach kws X.env)).filterMap (·.1) = ks := by rfl)
    (hdb : (x == ("__debug__" : Str)) = false := by decide) (he : starEach (e :: es) X.env = (false, eval e X.env) :: starEach es X.env := by rfl)
    (hpl : ((backTo pos (starEach (e :: es) X.env)).any (·.1) || (backToKw pos (keywordEach kws X.env)).any (·.1.isNone)) = false := by rfl) :
    EX X W (.Call (.Name x p) (e :: es) kws pos) (callX fn (fka n ks.length is fa fk)) := ⟨PE.imp (pe_callNS Fo hr hg hm hk hb hx ha.pa hkw.pk hall hks hdb he hpl) fun σ H Q h => fka_lift (call_liftX h)⟩
end
/-! ### an operator, a slice: a value or a new list -/
def op2X (sem : PV → PV → Option RV) (a b : Sk → R OV) : Sk → R RV := fun S => (a S).bind fun x S1 => (b S1).bind fun y S2 => match look S2 x, look S2 y with
  | some p, some q => (match sem p q with
    | some z => .ok z S2
    | none => .stuck)
  | _, _ => .stuck
def OutX (K : PySem.W.Frag) (H : Hp) (z : RV) (Q : VK) : Prop := match z with
  | .v z => Out K H z Q
  | .l z => OutL K H z Q
def Sem2X (X : Cx) (r : R2) (sem : PV → PV → Option RV) : Prop := ∀ (H : Hp) (x y : V) (p q : PV) (z : RV) (Q : VK), RT X.K H x p → RT X.K H y q → sem p q = some z → OutX X.K H z Q → r x y H Q
theorem post_outX {r : R RV} {z : RV} {Q : VK} {H0 : Hp} (R : RelS K S σ H) (F : Frm S0 σ H0 S σ H) (q : PostX K mg W S0 σ H0 (.ok z S) Q) : OutX K H z Q := by
  cases z with
  | v z => exact post_out (W := W) (mg := mg) (r := .stuck) R F q
  | l z => exact post_outL (W := W) (mg := mg) (r := .stuck) R F q
theorem lift2X {f g : Sk → R OV} {sem : PV → PV → Option RV} {r : R2} (hs : Sem2X X r sem) {Q : VK} (h : LiftX X.K X.mg W (op2X sem f g) σ H Q) :
    LiftO X.K X.mg W f σ H fun x H1 => LiftO X.K X.mg W g σ H1 fun y H2 => r x y H2 Q := by
  obtain ⟨S, R0, q⟩ := h
  refine ⟨S, R0, ?_⟩
  unfold op2X at q
  cases ha : f S with
  | stuck => rw [ha] at q; exact q
  | exc x S1 => rw [ha] at q; exact q
  | ok x S1 =>
    rw [ha, R.bind_ok] at q
    intro v H1 ov R1 F1
    refine ⟨S1, R1, ?_⟩
    cases hb : g S1 with
    | stuck => rw [hb] at q; exact q
    | exc y S2 => rw [hb] at q; exact fun c d H2 er R2 F2 => q c d H2 er R2 (F1.trans F2)
    | ok y S2 =>
      rw [hb, R.bind_ok] at q
      intro u H2 ou R2 F2
      split at q
      · rename_i p q' hp hq
        split at q
        · rename_i z hz
          exact hs H2 v u p q' z Q (look_rt R2 (ov.ext (R1.ext F2)) hp) (look_rt R2 ou hq) hz (post_outX (r := .stuck) R2 (F1.trans F2) q)
        · exact (show False from q).elim
      · exact (show False from q).elim
theorem ex_bin {a b : Expr} {fa fb : Sk → R OV} {op : Operator} {r : R2} {sem : PV → PV → Option RV} (ho : OpR X (binaryOp op) r) (hs : Sem2X X r sem) (ha : EO X W a fa) (hb : EO X W b fb) : EX X W (.BinOp a op b pos) (op2X sem fa fb) :=
  ⟨PE.imp (pe_op ho ha.pe hb.pe) fun _ _ _ h => lift2X hs h⟩
/-- + of whole numbers, texts, tuples, lists -/
def sAddX (p q : PV) : Option RV := match p, q with
  | .lst xs, .lst ys => (sAddL (.lst xs) (.lst ys)).map .l
  | p, q => (sAdd p q).map .v
theorem s_addX : Sem2X X (fun x y H Q => rAddA X x y H Q ∨ rCatL X.K x y H Q) sAddX := by
  intro H x y p q z Q hx hy e o
  unfold sAddX at e
  split at e
  · obtain ⟨w, h1, h2⟩ := Option.map_eq_some_iff.mp e
    subst h2
    exact .inr (s_addL H x y _ _ w Q hx hy h1 o)
  · obtain ⟨w, h1, h2⟩ := Option.map_eq_some_iff.mp e
    subst h2
    exact .inl (s_add H x y p q w Q hx hy h1 o)
theorem op_addX : OpR X (binaryOp .Add) (fun x y H Q => rAddA X x y H Q ∨ rCatL X.K x y H Q) := op_addA.or op_catL
theorem ex_add {a b : Expr} {fa fb : Sk → R OV} (ha : EO X W a fa) (hb : EO X W b fb) : EX X W (.BinOp a .Add b pos) (op2X sAddX fa fb) := ex_bin op_addX s_addX ha hb
/-- a slice -/
def sSlX (p : PV) (lo hi : Option Int) : Option RV := match p with
  | .lst xs => some (.l (.lst (cutP xs lo hi)))
  | p => (sSl p lo hi).map .v
def slX (f : Sk → R OV) (l u : Sk → R (Option Int)) : Sk → R RV := fun S => (f S).bind fun x S1 => (l S1).bind fun lo S2 => (u S2).bind fun hi S3 => match look S3 x with
  | some p => (match sSlX p lo hi with
    | some z => .ok z S3
    | none => .stuck)
  | none => .stuck
theorem ex_slice {lo hi : Option Expr} {fo : Sk → R OV} {fl fh : Sk → R (Option Int)} {p2 : Pos} (ha : EO X W e fo) (hl : EP X W lo fl) (hh : EP X W hi fh) : EX X W (.Subscript e (.Slice lo hi none p2) pos) (slX fo fl fh) := by
  refine ⟨PE.imp (pe_slice ((sl_tupA.or sl_str).or sl_list) ha.pe hl.po hh.po) fun σ H Q ⟨S, R0, q⟩ => ⟨S, R0, ?_⟩⟩
  unfold slX at q
  cases h1 : fo S with
  | stuck => rw [h1] at q; exact q
  | exc y S1 => rw [h1] at q; exact q
  | ok x S1 =>
    rw [h1, R.bind_ok] at q
    intro v H1 ov R1 F1
    refine ⟨S1, R1, ?_⟩
    cases h2 : fl S1 with
    | stuck => rw [h2] at q; exact q
    | exc y S2 => rw [h2] at q; exact fun c d H2 er R2 F2 => q c d H2 er R2 (F1.trans F2)
    | ok l S2 =>
      rw [h2, R.bind_ok] at q
      intro H2 R2 F2
      refine ⟨S2, R2, ?_⟩
      cases h3 : fh S2 with
      | stuck => rw [h3] at q; exact q
      | exc y S3 => rw [h3] at q; exact fun c d H3 er R3 F3 => q c d H3 er R3 ((F1.trans F2).trans F3)
      | ok u S3 =>
        rw [h3, R.bind_ok] at q
        intro H3 R3 F3
        split at q
        · rename_i pv hp
          split at q
          · rename_i z hz
            have rt := look_rt R3 ((ov.ext (R1.ext F2)).ext (R2.ext F3)) hp
            have oo := post_outX (r := .stuck) R3 ((F1.trans F2).trans F3) q
            unfold sSlX at hz
            split at hz
            · cases hz
              exact .inr (s_slL rt rfl oo)
            · obtain ⟨w, k1, k2⟩ := Option.map_eq_some_iff.mp hz
              subst k2
              exact .inl (s_sl rt k1 oo)
          · exact (show False from q).elim
        · exact (show False from q).elim
/-! ### words in short -/
theorem vv (i : Nat) {x : Str} {p : Pos} (hN : X.N[i]? = some x := by rfl) (hv : Vis X.env.scope x := by first | exact Or.inl rfl | exact Or.inr (Or.inl rfl) | exact Or.inr (Or.inr rfl)) (hd : (x == ("__debug__" : Str)) = false := by decide) (hcd : (x == ("__classdict__" : Str)) = false := by decide) : EV X W (.Name x p) (var i) := ev_var (pe_var hN hv hd hcd)
theorem oo (i : Nat) {x : Str} {p : Pos} (hN : X.N[i]? = some x := by rfl) (hv : Vis X.env.scope x := by first | exact Or.inl rfl | exact Or.inr (Or.inl rfl) | exact Or.inr (Or.inr rfl)) (hd : (x == ("__debug__" : Str)) = false := by decide) (hcd : (x == ("__classdict__" : Str)) = false := by decide) : EO X W (.Name x p) (opx i) := eo_var (pe_var hN hv hd hcd)
theorem ss (i : Nat) {x : Str} {p : Pos} (hN : X.N[i]? = some x := by rfl) (hv : Vis X.env.scope x := by first | exact Or.inl rfl | exact Or.inr (Or.inl rfl) | exact Or.inr (Or.inr rfl)) (hd : (x == ("__debug__" : Str)) = false := by decide) (hcd : (x == ("__classdict__" : Str)) = false := by decide) : EV X W (.Name x p) (shareF i) := ev_share (pe_var hN hv hd hcd)
theorem mm (i : Nat) {x : Str} {p : Pos} (hN : X.N[i]? = some x := by rfl) (hv : Vis X.env.scope x := by first | exact Or.inl rfl | exact Or.inr (Or.inl rfl) | exact Or.inr (Or.inr rfl)) (hd : (x == ("__debug__" : Str)) = false := by decide) (hcd : (x == ("__classdict__" : Str)) = false := by decide) : EL X W (.Name x p) (moveF i) := el_move (pe_var hN hv hd hcd)
theorem ea1 {e : Expr} {es : List Expr} {a : Sk → R OV} {r : Sk → R (List OV)} (ha : EO X W e a) (hr : EA X W es r) (hs : starEach (e :: es) X.env = (false, eval e X.env) :: starEach es X.env := by rfl) : EA X W (e :: es) (aCons a r) := ea_cons ha hr hs
theorem cB {idn : String} {r : List V → Hp → VK → Prop} {sem : List PV → Option PV} {x : Str} {p : Pos} {es : List Expr} {fa : Sk → R (List OV)} (hc : CallR X (.builtin idn) r) (hs : SemA X Out r sem) (hm : X.mg x = none) (ha : EA X W (e :: es) fa) (hg : Gl X x := by rfl) (hv : bootBuiltins x = some (.builtin idn) := by decide +kernel) (hn : x ≠ "__name__" := by decide) (hdb : (x == ("__debug__" : Str)) = false := by decide)
    (he : starEach (e :: es) X.env = (false, eval e X.env) :: starEach es X.env := by rfl) (hpl : (backTo pos (starEach es X.env)).any (·.1) = false := by rfl) : EV X W (.Call (.Name x p) (e :: es) [] pos) (opA sem fa) := ev_callB hc hs hg hm hv ha hn hdb he hpl
theorem cT {idn : String} {r : List V → Hp → VK → Prop} {sem : List PV → Option PV} {x : Str} {p : Pos} {es : List Expr} {fa : Sk → R (List OV)} (hc : CallR X (.type idn) r) (hs : SemA X Out r sem) (hm : X.mg x = none) (ha : EA X W (e :: es) fa) (hg : Gl X x := by rfl) (hv : bootBuiltins x = some (.type idn) := by decide +kernel) (hn : x ≠ "__name__" := by decide) (hdb : (x == ("__debug__" : Str)) = false := by decide)
    (he : starEach (e :: es) X.env = (false, eval e X.env) :: starEach es X.env := by rfl) (hpl : (backTo pos (starEach es X.env)).any (·.1) = false := by rfl) : EV X W (.Call (.Name x p) (e :: es) [] pos) (opA sem fa) := ev_callTy hc hs hg hm hv ha hn hdb he hpl
theorem cTL {idn : String} {r : List V → Hp → VK → Prop} {sem : List PV → Option PV} {x : Str} {p : Pos} {es : List Expr} {fa : Sk → R (List OV)} (hc : CallR X (.type idn) r) (hs : SemA X OutL r sem) (hm : X.mg x = none) (ha : EA X W (e :: es) fa) (hg : Gl X x := by rfl) (hv : bootBuiltins x = some (.type idn) := by decide +kernel) (hn : x ≠ "__name__" := by decide) (hdb : (x == ("__debug__" : Str)) = false := by decide)
    (he : starEach (e :: es) X.env = (false, eval e X.env) :: starEach es X.env := by rfl) (hpl : (backTo pos (starEach es X.env)).any (·.1) = false := by rfl) : EL X W (.Call (.Name x p) (e :: es) [] pos) (opA sem fa) := el_callTy hc hs hg hm hv ha hn hdb he hpl
/-- a local of whatever kind, given up where it is ours -/
def moveX (j : Nat) : Sk → R RV := fun S => match S[j]? with
  | some (.own x) => .ok (.l x) (S.set j .no)
  | some (.val x) => .ok (.v x) S
  | _ => .stuck
theorem ex_move {j : Nat} {e : Expr} (h : PE X e (tVar j)) : EX X W e (moveX j) := by
  refine ⟨PE.imp h fun σ H Q ⟨S, R0, q⟩ => ?_⟩
  unfold moveX at q
  split at q
  · rename_i x hx
    obtain ⟨a, u, h1, h2, h3⟩ := R0.atOwn hx
    refine ⟨_, h1, q a u H h2 h3 (fun w => ?_) (fun o _ => ⟨j, _, hx, rfl, h1⟩) (R0.setNo j) .setNo⟩
    obtain ⟨k, s, k1, k2, k3⟩ := w
    rcases get_set k1 with ⟨rfl, rfl⟩ | ⟨ne, k1⟩
    · cases k2
    · exact ne (R0.dj j k _ s a hx k1 rfl k2 h1 k3)
  · rename_i x hx
    obtain ⟨v, h1, h2⟩ := R0.atVal hx
    exact ⟨v, h1, q v H h2 R0 .refl⟩
  · exact (show False from q).elim
theorem mx (i : Nat) {x : Str} {p : Pos} (hN : X.N[i]? = some x := by rfl) (hv : Vis X.env.scope x := by first | exact Or.inl rfl | exact Or.inr (Or.inl rfl) | exact Or.inr (Or.inr rfl)) (hd : (x == ("__debug__" : Str)) = false := by decide) (hcd : (x == ("__classdict__" : Str)) = false := by decide) : EX X W (.Name x p) (moveX i) := ex_move (pe_var hN hv hd hcd)
/-- name = e -/
def setX (g : Sk → R RV) (i : Nat) : Sk → O := fun S => (g S).toO fun r S1 => if unpinned S1 i = true then (match r with
  | .v x => .nx (S1.set i (.val x))
  | .l x => .nx (S1.set i (.own x))) else .stuck
theorem setX_lift {g : Sk → R RV} {i : Nat} {D : Ends} (h : LiftS K mg W (setX g i) D σ H) : LiftX K mg W g σ H fun x H1 => gName i x σ H1 D.nx := by
  obtain ⟨S, R0, q⟩ := h
  refine ⟨S, R0, ?_⟩
  unfold setX at q
  cases hf : g S with
  | stuck => rw [hf] at q; exact q
  | exc y S1 => rw [hf] at q; exact fun c d H1 er R1 F1 => q c d σ H1 er R1 F1
  | ok r S1 =>
    rw [hf, R.toO_ok] at q
    by_cases hu : unpinned S1 i = true
    · rw [if_pos hu] at q
      cases r with
      | v x => exact fun v H1 rv R1 F1 => q _ H1 (R1.setVal rv) (F1.trans .setVal)
      | l x => exact fun p u H1 h1 h2 h3 h4 R1 F1 => q _ H1 (R1.setOwn h1 h2 h3) (F1.setOwn h4)
    · rw [if_neg hu] at q; exact (show False from q).elim
theorem vs_setX {g : Sk → R RV} {i : Nat} {x : Str} {e : Expr} {pos' : Pos} (hN : X.N.Nodup) (he : EX X W e g) (hi : X.N[i]? = some x := by rfl) (hx : Loc X.env.scope x := by first | exact .inl rfl | exact .inr rfl) (hs : swapsWith e (some (.Name x pos')) pos.line X.env = pure false := by rfl) (hf : X.fn x = true ∨ X.env.scope.names.lookup x = some .local := by first | exact .inl rfl | exact .inr rfl) :
    VS X W (.Assign [.Name x pos'] e pos) (setX g i) := ⟨PS.imp (ps_set hN hi hx he.pe hs hf) fun D σ H h => setX_lift h⟩
theorem lx_lift {f : Sk → R PV} {Q : VK} (h : LiftX K mg W (xL f) σ H Q) : LiftL K mg W f σ H Q := by
  obtain ⟨S, R0, q⟩ := h
  refine ⟨S, R0, ?_⟩
  unfold xL at q
  cases hf : f S with
  | stuck => rw [hf] at q; exact q
  | exc y S1 => rw [hf] at q; exact q
  | ok x S1 => rw [hf] at q; exact q
/-- name = [..] on one line -/
theorem vs_setC {tg iter elt : Expr} {ifs : List Expr} {ts : List Nat} {f : Sk → R (List PV × Option Nat)} {g : PV → Sk → Option Sk} {c : Sk → R Bool} {e : Sk → R PV} {scope : Scope} {own : List (Str × Nat)} {i : Nat} {y : Str} {py spos : Pos} (hc : X.calm = true) (hN : X.N.Nodup) (hi : EI X W tg iter f) (ok : BlkOk X.N X.env.scope scope own)
    (hg : ∀ (s : Shared) (H : Hp) (C : Addr) (cl : List (Str × Addr)) (fp : List Addr), EG (X.blk s H scope (compEnvC scope cl C X.env) fp) tg ts g) (ht : ∀ (s : Shared) (H : Hp) (C : Addr) (cl : List (Str × Addr)) (fp : List Addr), ETs (X.blk s H scope (compEnvC scope cl C X.env) fp) WF ifs c)
    (he : ∀ (s : Shared) (H : Hp) (C : Addr) (cl : List (Str × Addr)) (fp : List Addr), EV (X.blk s H scope (compEnvC scope cl C X.env) fp) WF elt e) (hsw : swapsWith (.ListComp elt [⟨tg, iter, ifs, 0⟩] scope pos) (some (.Name y py)) spos.line X.env = pure true) (hts : ∀ i ∈ ts, i ∈ own.map (·.2))
    (hy : X.N[i]? = some y := by rfl) (hyl : X.env.scope.names.lookup y = some .local := by rfl) (hs : ∀ x, foldedSetIterable iter X.env x = pure x := by intro _; rfl) :
    VS X W (.Assign [.Name y py] (.ListComp elt [⟨tg, iter, ifs, 0⟩] scope pos) spos) (setX (xL (compF f g c e (own.map (·.2)))) i) :=
  ⟨PS.imp (ps_setLc (g := LiftG X.K ts g) (tt := LiftT X.K X.mg WF c) (te := LiftE X.K X.mg WF e) hc hN hy hyl hsw hi.pi ok (fun s H C cl fp => (hg s H C cl fp).pg) (fun s H C cl fp => (ht s H C cl fp).pts) (fun s H C cl fp => (he s H C cl fp).pe) hs) fun D σ H h => comp_lift hts (lx_lift (setX_lift h))⟩
theorem comp1 {tg iter elt : Expr} {ifs : List Expr} {ts : List Nat} {f : Sk → R (List PV × Option Nat)} {g : PV → Sk → Option Sk} {c : Sk → R Bool} {e : Sk → R PV} {scope : Scope} {own : List (Str × Nat)} (hc : X.calm = true) (hN : X.N.Nodup) (hi : EI X W tg iter f) (ok : BlkOk X.N X.env.scope scope own)
    (hg : ∀ (s : Shared) (H : Hp) (C : Addr) (cl : List (Str × Addr)) (fp : List Addr), EG (X.blk s H scope (compEnvC scope cl C X.env) fp) tg ts g) (ht : ∀ (s : Shared) (H : Hp) (C : Addr) (cl : List (Str × Addr)) (fp : List Addr), ETs (X.blk s H scope (compEnvC scope cl C X.env) fp) WF ifs c)
    (he : ∀ (s : Shared) (H : Hp) (C : Addr) (cl : List (Str × Addr)) (fp : List Addr), EV (X.blk s H scope (compEnvC scope cl C X.env) fp) WF elt e) (hts : ∀ i ∈ ts, i ∈ own.map (·.2)) (hs : ∀ x, foldedSetIterable iter X.env x = pure x := by intro _; rfl) :
    EL X W (.ListComp elt [⟨tg, iter, ifs, 0⟩] scope pos) (compF f g c e (own.map (·.2))) := el_comp hc hN hi ok hg ht he hts hs
theorem ety {T : String} {x : Str} {p : Pos} (hm : X.mg x = none) (hv : bootBuiltins x = some (.type T) := by decide +kernel) (hg : Gl X x := by rfl) (hn : x ≠ "__name__" := by decide) (hdb : (x == ("__debug__" : Str)) = false := by decide) : PE X (.Name x p) (tC (.ty T)) :=
  ⟨fun pins s σ H Q I h => ld_blt I hg hm hv ⟨.ty T, H, I, rfl, h⟩ hn hdb⟩
theorem isi {T : Ty} {a c : Expr} {fo : Sk → R OV} {x : Str} {p pos : Pos} (hm : X.mg x = none) (ha : EO X W a fo) (hc : PE X c (tC (.ty T.name))) (hg : Gl X x := by rfl) (hv : bootBuiltins x = some (.builtin "isinstance") := by decide +kernel) (hn : x ≠ "__name__" := by decide) (hdb : (x == ("__debug__" : Str)) = false := by decide)
    (h1 : starEach [a, c] X.env = (false, eval a X.env) :: starEach [c] X.env := by rfl) (h2 : starEach [c] X.env = (false, eval c X.env) :: starEach [] X.env := by rfl) (hpl : (backTo pos (starEach [c] X.env)).any (·.1) = false := by rfl) :
    EV X W (.Call (.Name x p) [a, c] [] pos) (isiF T fo) := ev_isi hg hm hv ha hc hn hdb h1 h2 hpl
theorem room80 {k : Nat} {A : Around} (r : Room k A) : A.units + 80 < cLine := by have := r.un; omega
theorem room65 {k : Nat} {A : Around} (r : Room k A) : A.units + 65 < cLine := by have := r.un; omega
theorem egn {i : Nat} {x : Str} {p : Pos} (hN : X.N.Nodup) (hi : X.N[i]? = some x := by rfl) (hx : Loc X.env.scope x := by first | exact .inl rfl | exact .inr rfl) (hf : X.fn x = true ∨ X.env.scope.names.lookup x = some .local := by first | exact .inl rfl | exact .inr rfl) : EG X (.Name x p) [i] (gSet i) := eg_name (pg_name hN hi hx hf)
theorem egs1 {tg : Expr} {ts : List Expr} {us ws : List Nat} {g : PV → Sk → Option Sk} {r : List PV → Sk → Option Sk} (h1 : EG X tg us g) (h2 : EGs X ts ws r) (hs : (assignEach (tg :: ts) X.env).map (·.2) = assign tg X.env :: (assignEach ts X.env).map (·.2) := by rfl) : EGs X (tg :: ts) (us ++ ws) (gsCons g r) := egs_cons h1 h2 hs
theorem egt {es : List Expr} {us : List Nat} {k n : Nat} {g : List PV → Sk → Option Sk} (hc : X.calm = true) (h : EGs X es us g) (hn : (assignEach es X.env).length = n := by rfl) (hst : (assignEach es X.env).findIdx? (·.1) = none := by rfl) : EG X (.Tuple es k pos) us (gTupF n g) := eg_tup hc h hn hst
theorem asg {tg e : Expr} {us : List Nat} {f : Sk → R PV} {g : PV → Sk → Option Sk} (he : EV X W e f) (hg : EG X tg us g) (hs : swapsWithSole [tg] e pos.line X.env = pure false := by rfl) (hw : swappedStores [tg] e X.env = pure none := by rfl) (h1 : (assignEach [tg] X.env).map (·.2) = [assign tg X.env] := by rfl) :
    VS X W (.Assign [tg] e pos) (asgF f g) := vs_asg he hg hs hw h1
theorem par {i j : Nat} {x y : Str} {a b : Expr} {fa : Sk → R (List OV)} {px py pt : Pos} {kt k2 : Nat} {pt2 : Pos} (hc : X.calm = true) (hN : X.N.Nodup) (hij : i ≠ j) (ha : EA X W [a, b] fa) (hi : X.N[i]? = some x := by rfl) (hj : X.N[j]? = some y := by rfl)
    (hx : X.env.scope.names.lookup x = some .local := by rfl) (hy : X.env.scope.names.lookup y = some .local := by rfl)
    (hw : swappedStores [.Tuple [.Name x px, .Name y py] kt pt] (.Tuple [a, b] k2 pt2) X.env = pure (some [x, y]) := by rfl)
    (hs : swapsWithSole [.Tuple [.Name x px, .Name y py] kt pt] (.Tuple [a, b] k2 pt2) pos.line X.env = pure false := by rfl) :
    VS X W (.Assign [.Tuple [.Name x px, .Name y py] kt pt] (.Tuple [a, b] k2 pt2) pos) (parF i j fa) := vs_par (ps_par hc hN hi hj hij hx hy ha.pa hw hs)
theorem augP {i : Nat} {x : Str} {e : Expr} {f : Sk → R PV} {p : Pos} (hN : X.N.Nodup) (he : EV X W e f) (hi : X.N[i]? = some x := by rfl) (hx : Loc X.env.scope x := by first | exact .inl rfl | exact .inr rfl) (hf : X.fn x = true ∨ X.env.scope.names.lookup x = some .local := by first | exact .inl rfl | exact .inr rfl) :
    VS X W (.AugAssign (.Name x p) .Add e pos) (augF i (sInt yes2 fun i j => i + j) f) := vs_aug (ps_aug hN hi hx he.pe ip_add hf) aug_add
theorem augM {i : Nat} {x : Str} {e : Expr} {f : Sk → R PV} {p : Pos} (hN : X.N.Nodup) (he : EV X W e f) (hi : X.N[i]? = some x := by rfl) (hx : Loc X.env.scope x := by first | exact .inl rfl | exact .inr rfl) (hf : X.fn x = true ∨ X.env.scope.names.lookup x = some .local := by first | exact .inl rfl | exact .inr rfl) :
    VS X W (.AugAssign (.Name x p) .Sub e pos) (augF i (sInt yes2 fun i j => i - j) f) := vs_aug (ps_aug hN hi hx he.pe ip_sub hf) aug_sub
theorem sto {j : Nat} {x : Str} {p : Pos} {i e : Expr} {f fi : Sk → R PV} {p2 : Pos} (he : EV X W e f) (hi : EV X W i fi) (hN : X.N[j]? = some x := by rfl) (hv : Vis X.env.scope x := by first | exact Or.inl rfl | exact Or.inr (Or.inl rfl) | exact Or.inr (Or.inr rfl)) (hd : (x == ("__debug__" : Str)) = false := by decide) (hcd : (x == ("__classdict__" : Str)) = false := by decide)
    (ha : ∀ v, assign (.Subscript (.Name x p) i p2) X.env v = (do
      let ov ← holding [v] (eval (.Name x p) X.env)
      let iv ← holding [v, ov] (eval i X.env)
      standAt p2
      holding [v, ov, iv] (setItem ov iv v)
      release [v, ov, iv] []) := by intro _; rfl)
    (hs : swapsWithSole [.Subscript (.Name x p) i p2] e pos.line X.env = pure false := by rfl) (hw : swappedStores [.Subscript (.Name x p) i p2] e X.env = pure none := by rfl) (h1 : (assignEach [.Subscript (.Name x p) i p2] X.env).map (·.2) = [assign (.Subscript (.Name x p) i p2) X.env] := by rfl) :
    VS X W (.Assign [.Subscript (.Name x p) i p2] e pos) (stF j f fi) := vs_st (ps_asg he.pe (pg_sub (pe_var hN hv hd hcd) hi.pe set_list ha) hs hw h1)
theorem rng1 {tg a : Expr} {fa : Sk → R (List OV)} {p : Pos} (hm : X.mg "range" = none) (ha : EA X W [a] fa) (hg : Gl X "range" := by rfl) (hs : starEach [a] X.env = [(false, eval a X.env)] := by rfl) : EI X W tg (.Call (.Name "range" p) [a] [] pos) (argI sRng1 fa) := ei_range1 hg hm ha hs
theorem rng2 {tg a b : Expr} {fa : Sk → R (List OV)} {p : Pos} (hm : X.mg "range" = none) (ha : EA X W [a, b] fa) (hg : Gl X "range" := by rfl) (hs : starEach [a, b] X.env = [(false, eval a X.env), (false, eval b X.env)] := by rfl) (hs2 : starEach [b] X.env = [(false, eval b X.env)] := by rfl) : EI X W tg (.Call (.Name "range" p) [a, b] [] pos) (argI sRng2 fa) := ei_range2 hg hm ha hs hs2
theorem lzip {a b : Expr} {fa : Sk → R (List OV)} {p p2 pos2 : Pos} (hc : X.calm = true) (hm : X.mg "list" = none) (hm2 : X.mg "zip" = none) (ha : EA X W [a, b] fa) (hg : Gl X "list" := by rfl) (hg2 : Gl X "zip" := by rfl)
    (hs : starEach [a, b] X.env = (false, eval a X.env) :: starEach [b] X.env := by rfl) (hpl : (backTo pos2 (starEach [b] X.env)).any (·.1) = false := by rfl)
    (hs2 : starEach [.Call (.Name "zip" p2) [a, b] [] pos2] X.env = (false, eval (.Call (.Name "zip" p2) [a, b] [] pos2) X.env) :: starEach [] X.env := by rfl) :
    EL X W (.Call (.Name "list" p) [.Call (.Name "zip" p2) [a, b] [] pos2] [] pos) (opA sListZip fa) := el_listZip hc hg hm hg2 hm2 ha hs hpl hs2
theorem eval_t {e : Expr} {f : Sk → R PV} (h : EV X W e f) (he : ∀ whole, isTrue e X.env whole = (do let v ← whole; standAt e.pos; holding [v] (truthy v)) := by intro _; rfl) : ET X W e (tst f) := et_val h he
theorem vfor {tg iter : Expr} {ts : List Nat} {f : Sk → R (List PV × Option Nat)} {g : PV → Sk → Option Sk} {F : Sk → O} {body : List Stmt} (hp : PassesOwn (model X.prog X.w) X.A X.env X.xe) (hc : X.calm = true) (hi : EI X W tg iter f) (hg : EG X tg ts g) (hb : VSs X W body F) (hs : ∀ x, foldedSetIterable iter X.env x = pure x := by intro _; rfl) : VS X W (.For tg iter body [] pos) (forF f g F) := vs_for hp hc hi hg hb hs
theorem vexp {e : Expr} {f : Sk → R PV} (h : EV X W e f) (hs : swapsWith e none pos.line X.env = pure false := by rfl) : VS X W (.Expr e pos) (exprF f) := vs_expr h hs
end
end VL

set_option Elab.async false
set_option linter.all false
set_option autoImplicit false
set_option maxRecDepth 100000
set_option maxHeartbeats 4000000
/-! VM: what the readings give, value by value. -/
namespace VL
open PySem L2

/-! ### how the readings run: every rest is named, so that nothing is looked into before its state is known -/
section
variable {α : Type} {S S1 : Sk} {f f2 : Sk → R PV} {fo fo2 : Sk → R OV} {fa fa2 : Sk → R (List OV)} {ft ft2 : Sk → R Bool} {gx : Sk → R RV} {F G : Sk → O} {i j : Nat} {x y z p q : PV} {os : List OV} {o o2 : OV}
def oThen (r : O) (G : Sk → O) : O := match r with
  | .nx S1 => G S1
  | .stuck => .stuck
  | .rt r S1 => .rt r S1
  | .bk S1 => .bk S1
  | .ct S1 => .ct S1
  | .exc e S1 => .exc e S1
@[simp] theorem seqF_ap : seqF F G S = oThen (F S) G := rfl
@[simp] theorem oThen_nx : oThen (.nx S) G = G S := rfl
@[simp] theorem oThen_rt (r : RV) : oThen (.rt r S) G = .rt r S := rfl
@[simp] theorem oThen_bk : oThen (.bk S) G = .bk S := rfl
@[simp] theorem oThen_ct : oThen (.ct S) G = .ct S := rfl
@[simp] theorem oThen_exc (e : Exn) : oThen (.exc e S) G = .exc e S := rfl
@[simp] theorem nxF_ap : nxF S = .nx S := rfl
@[simp] theorem bkF_ap : bkF S = .bk S := rfl
@[simp] theorem ctF_ap : ctF S = .ct S := rfl
@[simp] theorem retNF_ap : retNF S = .rt (.v .non) S := rfl
def kRet (r : RV) (S1 : Sk) : O := .rt r S1
@[simp] theorem retX_ap : retX gx S = (gx S).toO kRet := rfl
@[simp] theorem kRet_ap (r : RV) : kRet r S = .rt r S := rfl
def kSet (i : Nat) (r : RV) (S1 : Sk) : O := if unpinned S1 i = true then (match r with
  | .v x => .nx (S1.set i (.val x))
  | .l x => .nx (S1.set i (.own x))) else .stuck
@[simp] theorem setX_ap : setX gx i S = (gx S).toO (kSet i) := rfl
@[simp] theorem kSet_v : kSet i (.v x) S = if unpinned S i = true then .nx (S.set i (.val x)) else .stuck := rfl
@[simp] theorem kSet_l : kSet i (.l x) S = if unpinned S i = true then .nx (S.set i (.own x)) else .stuck := rfl
def kIfS (F G : Sk → O) (b : Bool) (S1 : Sk) : O := if b = true then F S1 else G S1
@[simp] theorem ifS_ap : ifS ft F G S = (ft S).toO (kIfS F G) := rfl
@[simp] theorem kIfS_t : kIfS F G true S = F S := rfl
@[simp] theorem kIfS_f : kIfS F G false S = G S := rfl
def kExpr (_ : PV) (S1 : Sk) : O := .nx S1
@[simp] theorem exprF_ap : exprF f S = (f S).toO kExpr := rfl
@[simp] theorem kExpr_ap : kExpr x S = .nx S := rfl
def kPar (i j : Nat) (os : List OV) (S1 : Sk) : O := match valsOf os with
  | some [x, y] => if unpinned S1 i = true ∧ unpinned S1 j = true then .nx ((S1.set i (.val x)).set j (.val y)) else .stuck
  | _ => .stuck
@[simp] theorem parF_ap : parF i j fa S = (fa S).toO (kPar i j) := rfl
@[simp] theorem kPar_ap : kPar i j [.v x, .v y] S = if unpinned S i = true ∧ unpinned S j = true then .nx ((S.set i (.val x)).set j (.val y)) else .stuck := rfl
def kAsg (g : PV → Sk → Option Sk) (x : PV) (S1 : Sk) : O := match g x S1 with
  | some S2 => .nx S2
  | none => .stuck
@[simp] theorem asgF_ap (g : PV → Sk → Option Sk) : asgF f g S = (f S).toO (kAsg g) := rfl
def oNx (r : Option Sk) : O := match r with
  | some S2 => .nx S2
  | none => .stuck
@[simp] theorem kAsg_ap (g : PV → Sk → Option Sk) : kAsg g x S = oNx (g x S) := rfl
@[simp] theorem oNx_s : oNx (some S) = .nx S := rfl
def kAug (i : Nat) (sem : PV → PV → Option PV) (x y : PV) (S1 : Sk) : O := match sem x y with
  | some z => if unpinned S1 i = true then .nx (S1.set i (.val z)) else .stuck
  | none => .stuck
def kAug0 (i : Nat) (sem : PV → PV → Option PV) (f : Sk → R PV) (s : Option Sl) (S : Sk) : O := match s with
  | some (.val x) => (f S).toO (kAug i sem x)
  | _ => .stuck
@[simp] theorem augF_ap (sem : PV → PV → Option PV) : augF i sem f S = kAug0 i sem f S[i]? S := by
  unfold augF kAug0
  cases h : S[i]? with
  | none => rfl
  | some x => cases x <;> rfl
@[simp] theorem kAug0_ap (sem : PV → PV → Option PV) : kAug0 i sem f (some (.val x)) S = (f S).toO (kAug i sem x) := rfl
def kAug1 (i : Nat) (r : Option PV) (S1 : Sk) : O := match r with
  | some z => if unpinned S1 i = true then .nx (S1.set i (.val z)) else .stuck
  | none => .stuck
@[simp] theorem kAug_ap (sem : PV → PV → Option PV) : kAug i sem x y S = kAug1 i (sem x y) S := rfl
@[simp] theorem kAug1_ap : kAug1 i (some z) S = if unpinned S i = true then .nx (S.set i (.val z)) else .stuck := rfl
def kSt2 (j : Nat) (x i : PV) (S2 : Sk) : O := match getO S2 j, i with
  | some (.lst xs), .int k => (match ixN xs.length k with
    | some m => .nx (putO S2 j (.lst (xs.set m x)))
    | none => .stuck)
  | _, _ => .stuck
def kSt1 (j : Nat) (fi : Sk → R PV) (x : PV) (S1 : Sk) : O := (fi S1).toO (kSt2 j x)
def kSt0 (j : Nat) (f fi : Sk → R PV) (c : Option PV) (S : Sk) : O := match c with
  | some _ => (f S).toO (kSt1 j fi)
  | none => .stuck
@[simp] theorem stF_ap : stF j f f2 S = kSt0 j f f2 (getO S j) S := rfl
@[simp] theorem kSt0_ap : kSt0 j f f2 (some x) S = (f S).toO (kSt1 j f2) := rfl
@[simp] theorem kSt1_ap : kSt1 j f2 x S = (f2 S).toO (kSt2 j x) := rfl
def kSt3 (j : Nat) (x : PV) (c : Option PV) (k : Int) (S2 : Sk) : O := match c with
  | some (.lst xs) => (match ixN xs.length k with
    | some m => .nx (putO S2 j (.lst (xs.set m x)))
    | none => .stuck)
  | _ => .stuck
@[simp] theorem kSt2_ap (k : Int) : kSt2 j x (.int k) S = kSt3 j x (getO S j) k S := by
  unfold kSt2 kSt3
  split
  · rename_i xs k' h1 h2; cases h2; rw [h1]
  · rename_i h
    split
    · rename_i xs hx; exact absurd rfl (h xs k hx)
    · rfl
def kSt4 (j : Nat) (x : PV) (xs : List PV) (m : Option Nat) (S2 : Sk) : O := match m with
  | some m => .nx (putO S2 j (.lst (xs.set m x)))
  | none => .stuck
@[simp] theorem kSt3_ap (xs : List PV) (k : Int) : kSt3 j x (some (.lst xs)) k S = kSt4 j x xs (ixN xs.length k) S := rfl
@[simp] theorem kSt4_ap (xs : List PV) (m : Nat) : kSt4 j x xs (some m) S = .nx (putO S j (.lst (xs.set m x))) := rfl
/-- values -/
def kXV (x : PV) (S1 : Sk) : R RV := .ok (.v x) S1
def kXL (x : PV) (S1 : Sk) : R RV := .ok (.l x) S1
def kFz (r : RV) (S1 : Sk) : R PV := .ok r.val S1
@[simp] theorem xV_ap : xV f S = (f S).bind kXV := rfl
@[simp] theorem xL_ap : xL f S = (f S).bind kXL := rfl
@[simp] theorem fz_ap : fz gx S = (gx S).bind kFz := rfl
@[simp] theorem kXV_ap : kXV x S = .ok (.v x) S := rfl
@[simp] theorem kXL_ap : kXL x S = .ok (.l x) S := rfl
@[simp] theorem kFz_v : kFz (.v x) S = .ok x S := rfl
@[simp] theorem kFz_l : kFz (.l x) S = .ok x S := rfl
def kLx (r : RV) (S1 : Sk) : R PV := match r with
  | .l x => .ok x S1
  | .v _ => .stuck
@[simp] theorem lx_ap : lx gx S = (gx S).bind kLx := rfl
@[simp] theorem kLx_l : kLx (.l x) S = .ok x S := rfl
@[simp] theorem cst_ap : cst x S = .ok x S := rfl
def slV (s : Option Sl) (S : Sk) : R PV := match s with
  | some (.val x) => .ok x S
  | _ => .stuck
def slShare (j : Nat) (s : Option Sl) (S : Sk) : R PV := match s with
  | some (.own x) => .ok x (S.set j (.val x))
  | some (.val x) => .ok x S
  | _ => .stuck
def slMove (j : Nat) (s : Option Sl) (S : Sk) : R RV := match s with
  | some (.own x) => .ok (.l x) (S.set j .no)
  | some (.val x) => .ok (.v x) S
  | _ => .stuck
def slOpx (j : Nat) (s : Option Sl) (S : Sk) : R OV := match s with
  | some (.val x) => .ok (.v x) S
  | some (.own _) => .ok (.s j) S
  | some (.io _) => .ok (.s j) S
  | _ => .stuck
@[simp] theorem var_ap : var j S = slV S[j]? S := rfl
@[simp] theorem shareF_ap : shareF j S = slShare j S[j]? S := rfl
@[simp] theorem moveX_ap : moveX j S = slMove j S[j]? S := rfl
@[simp] theorem opx_ap : opx j S = slOpx j S[j]? S := rfl
@[simp] theorem slV_v : slV (some (.val x)) S = .ok x S := rfl
@[simp] theorem slShare_o : slShare j (some (.own x)) S = .ok x (S.set j (.val x)) := rfl
@[simp] theorem slShare_v : slShare j (some (.val x)) S = .ok x S := rfl
@[simp] theorem slMove_o : slMove j (some (.own x)) S = .ok (.l x) (S.set j .no) := rfl
@[simp] theorem slMove_v : slMove j (some (.val x)) S = .ok (.v x) S := rfl
@[simp] theorem slOpx_v : slOpx j (some (.val x)) S = .ok (.v x) S := rfl
@[simp] theorem slOpx_o : slOpx j (some (.own x)) S = .ok (.s j) S := rfl
@[simp] theorem slOpx_i : slOpx j (some (.io x)) S = .ok (.s j) S := rfl
def kOpv (x : PV) (S1 : Sk) : R OV := .ok (.v x) S1
@[simp] theorem opv_ap : opv f S = (f S).bind kOpv := rfl
@[simp] theorem kOpv_ap : kOpv x S = .ok (.v x) S := rfl
def slLook (s : Option Sl) : Option PV := match s with
  | some (.own x) => some x
  | some (.io x) => some x
  | _ => none
@[simp] theorem look_v : look S (.v x) = some x := rfl
@[simp] theorem look_s : look S (.s j) = slLook S[j]? := rfl
@[simp] theorem getO_ap : getO S j = slLook S[j]? := rfl
@[simp] theorem slLook_o : slLook (some (.own x)) = some x := rfl
@[simp] theorem slLook_i : slLook (some (.io x)) = some x := rfl
def slPut (S : Sk) (j : Nat) (x : PV) (s : Option Sl) : Sk := match s with
  | some (.own _) => S.set j (.own x)
  | some (.io _) => S.set j (.io x)
  | _ => S
@[simp] theorem putO_ap : putO S j x = slPut S j x S[j]? := rfl
@[simp] theorem slPut_o : slPut S j x (some (.own y)) = S.set j (.own x) := rfl
@[simp] theorem slPut_i : slPut S j x (some (.io y)) = S.set j (.io x) := rfl
def slUnp (s : Option Sl) : Bool := match s with
  | some s => !pinned s
  | none => false
@[simp] theorem unpinned_ap : unpinned S j = slUnp S[j]? := rfl
@[simp] theorem slUnp_no : slUnp (some .no) = true := rfl
@[simp] theorem slUnp_v : slUnp (some (.val x)) = true := rfl
@[simp] theorem slUnp_o : slUnp (some (.own x)) = true := rfl
def kEnd (r : Option PV) (S1 : Sk) : R PV := match r with
  | some z => .ok z S1
  | none => .stuck
@[simp] theorem kEnd_s : kEnd (some z) S = .ok z S := rfl
def kOp1 (sem : PV → Option PV) (c : Option PV) (S1 : Sk) : R PV := match c with
  | some p => kEnd (sem p) S1
  | none => .stuck
def kOp1a (sem : PV → Option PV) (x : OV) (S1 : Sk) : R PV := kOp1 sem (look S1 x) S1
@[simp] theorem op1_ap (sem : PV → Option PV) : op1 sem fo S = (fo S).bind (kOp1a sem) := rfl
@[simp] theorem kOp1a_ap (sem : PV → Option PV) : kOp1a sem o S = kOp1 sem (look S o) S := rfl
@[simp] theorem kOp1_s (sem : PV → Option PV) : kOp1 sem (some p) S = kEnd (sem p) S := rfl
def kOp2 (sem : PV → PV → Option PV) (c d : Option PV) (S1 : Sk) : R PV := match c, d with
  | some p, some q => kEnd (sem p q) S1
  | _, _ => .stuck
def kOp2b (sem : PV → PV → Option PV) (x y : OV) (S2 : Sk) : R PV := kOp2 sem (look S2 x) (look S2 y) S2
def kOp2a (sem : PV → PV → Option PV) (fb : Sk → R OV) (x : OV) (S1 : Sk) : R PV := (fb S1).bind (kOp2b sem x)
@[simp] theorem op2_ap (sem : PV → PV → Option PV) : op2 sem fo fo2 S = (fo S).bind (kOp2a sem fo2) := rfl
@[simp] theorem kOp2a_ap (sem : PV → PV → Option PV) : kOp2a sem fo2 o S = (fo2 S).bind (kOp2b sem o) := rfl
@[simp] theorem kOp2b_ap (sem : PV → PV → Option PV) : kOp2b sem o o2 S = kOp2 sem (look S o) (look S o2) S := rfl
@[simp] theorem kOp2_s (sem : PV → PV → Option PV) : kOp2 sem (some p) (some q) S = kEnd (sem p q) S := rfl
def kEndX (r : Option RV) (S1 : Sk) : R RV := match r with
  | some z => .ok z S1
  | none => .stuck
@[simp] theorem kEndX_s (r : RV) : kEndX (some r) S = .ok r S := rfl
def kX2 (sem : PV → PV → Option RV) (c d : Option PV) (S1 : Sk) : R RV := match c, d with
  | some p, some q => kEndX (sem p q) S1
  | _, _ => .stuck
def kX2b (sem : PV → PV → Option RV) (x y : OV) (S2 : Sk) : R RV := kX2 sem (look S2 x) (look S2 y) S2
def kX2a (sem : PV → PV → Option RV) (fb : Sk → R OV) (x : OV) (S1 : Sk) : R RV := (fb S1).bind (kX2b sem x)
@[simp] theorem op2X_ap (sem : PV → PV → Option RV) : op2X sem fo fo2 S = (fo S).bind (kX2a sem fo2) := rfl
@[simp] theorem kX2a_ap (sem : PV → PV → Option RV) : kX2a sem fo2 o S = (fo2 S).bind (kX2b sem o) := rfl
@[simp] theorem kX2b_ap (sem : PV → PV → Option RV) : kX2b sem o o2 S = kX2 sem (look S o) (look S o2) S := rfl
@[simp] theorem kX2_s (sem : PV → PV → Option RV) : kX2 sem (some p) (some q) S = kEndX (sem p q) S := rfl
/-- slices -/
def kSlE (lo hi : Option Int) (c : Option PV) (S3 : Sk) : R RV := match c with
  | some p => kEndX (sSlX p lo hi) S3
  | none => .stuck
def kSlC (x : OV) (lo hi : Option Int) (S3 : Sk) : R RV := kSlE lo hi (look S3 x) S3
def kSlB (u : Sk → R (Option Int)) (x : OV) (lo : Option Int) (S2 : Sk) : R RV := (u S2).bind (kSlC x lo)
def kSlA (l u : Sk → R (Option Int)) (x : OV) (S1 : Sk) : R RV := (l S1).bind (kSlB u x)
section
variable {l u : Sk → R (Option Int)} {lo hi : Option Int}
@[simp] theorem slX_ap : slX fo l u S = (fo S).bind (kSlA l u) := rfl
@[simp] theorem kSlA_ap : kSlA l u o S = (l S).bind (kSlB u o) := rfl
@[simp] theorem kSlB_ap : kSlB u o lo S = (u S).bind (kSlC o lo) := rfl
@[simp] theorem kSlC_ap : kSlC o lo hi S = kSlE lo hi (look S o) S := rfl
@[simp] theorem kSlE_ap : kSlE lo hi (some p) S = kEndX (sSlX p lo hi) S := rfl
@[simp] theorem pNone_ap : pNone S = .ok none S := rfl
def kSome (x : PV) (S1 : Sk) : R (Option Int) := match x with
  | .int i => .ok (some i) S1
  | _ => .stuck
@[simp] theorem pSome_ap : pSome f S = (f S).bind kSome := rfl
@[simp] theorem kSome_ap (i : Int) : kSome (.int i) S = .ok (some i) S := rfl
end
/-- arguments -/
def kCons2 (o : OV) (os : List OV) (S2 : Sk) : R (List OV) := .ok (o :: os) S2
def kCons1 (r : Sk → R (List OV)) (o : OV) (S1 : Sk) : R (List OV) := (r S1).bind (kCons2 o)
@[simp] theorem aNil_ap : aNil S = .ok [] S := rfl
@[simp] theorem aCons_ap : aCons fo fa S = (fo S).bind (kCons1 fa) := rfl
@[simp] theorem kCons1_ap : kCons1 fa o S = (fa S).bind (kCons2 o) := rfl
@[simp] theorem kCons2_ap : kCons2 o os S = .ok (o :: os) S := rfl
@[simp] theorem valsOf_nil : valsOf [] = some [] := rfl
@[simp] theorem valsOf_cons : valsOf (.v x :: os) = (valsOf os).map (x :: ·) := rfl
def lookC (a : Option PV) (b : Option (List PV)) : Option (List PV) := match a, b with
  | some x, some xs => some (x :: xs)
  | _, _ => none
@[simp] theorem lookAll_nil : lookAll S [] = some [] := rfl
@[simp] theorem lookAll_cons : lookAll S (o :: os) = lookC (look S o) (lookAll S os) := rfl
@[simp] theorem lookC_s (xs : List PV) : lookC (some x) (some xs) = some (x :: xs) := rfl
def kA2 (sem : List PV → Option PV) (c : Option (List PV)) (S1 : Sk) : R PV := match c with
  | some ps => kEnd (sem ps) S1
  | none => .stuck
def kA1 (sem : List PV → Option PV) (os : List OV) (S1 : Sk) : R PV := kA2 sem (lookAll S1 os) S1
@[simp] theorem opA_ap (sem : List PV → Option PV) : opA sem fa S = (fa S).bind (kA1 sem) := rfl
@[simp] theorem kA1_ap (sem : List PV → Option PV) : kA1 sem os S = kA2 sem (lookAll S os) S := rfl
@[simp] theorem kA2_s (sem : List PV → Option PV) (ps : List PV) : kA2 sem (some ps) S = kEnd (sem ps) S := rfl
def kDisp2 (mk : List PV → PV) (c : Option (List PV)) (S1 : Sk) : R PV := match c with
  | some xs => if xs.length ≤ 16777216 then .ok (mk xs) S1 else .stuck
  | none => .stuck
def kDisp (mk : List PV → PV) (os : List OV) (S1 : Sk) : R PV := kDisp2 mk (valsOf os) S1
@[simp] theorem dispF_ap (mk : List PV → PV) : dispF mk fa S = (fa S).bind (kDisp mk) := rfl
@[simp] theorem kDisp_ap (mk : List PV → PV) : kDisp mk os S = kDisp2 mk (valsOf os) S := rfl
@[simp] theorem kDisp2_s (mk : List PV → PV) (xs : List PV) : kDisp2 mk (some xs) S = if xs.length ≤ 16777216 then .ok (mk xs) S else .stuck := rfl
@[simp] theorem isiF_ap (T : Ty) : isiF T fo S = (fo S).bind (kOp1a fun x => some (.bl (isTy T x))) := rfl
/-- tests -/
def kTst (x : PV) (S1 : Sk) : R Bool := match x with
  | .bl b => .ok b S1
  | _ => .stuck
@[simp] theorem tst_ap : tst f S = (f S).bind kTst := rfl
@[simp] theorem kTst_ap (b : Bool) : kTst (.bl b) S = .ok b S := rfl
def kTAnd (g : Sk → R Bool) (b : Bool) (S1 : Sk) : R Bool := if b = true then g S1 else .ok false S1
def kTOr (g : Sk → R Bool) (b : Bool) (S1 : Sk) : R Bool := if b = true then .ok true S1 else g S1
def kTNot (b : Bool) (S1 : Sk) : R Bool := .ok (!b) S1
@[simp] theorem tAndF_ap : tAndF ft ft2 S = (ft S).bind (kTAnd ft2) := rfl
@[simp] theorem tOrF_ap : tOrF ft ft2 S = (ft S).bind (kTOr ft2) := rfl
@[simp] theorem tNotF_ap : tNotF ft S = (ft S).bind kTNot := rfl
@[simp] theorem kTAnd_t : kTAnd ft true S = ft S := rfl
@[simp] theorem kTAnd_f : kTAnd ft false S = .ok false S := rfl
@[simp] theorem kTOr_t : kTOr ft true S = .ok true S := rfl
@[simp] theorem kTOr_f : kTOr ft false S = ft S := rfl
@[simp] theorem kTNot_ap (b : Bool) : kTNot b S = .ok (!b) S := rfl
def kVAnd (g : Sk → R PV) (x : PV) (S1 : Sk) : R PV := match x with
  | .bl true => g S1
  | .bl false => .ok (.bl false) S1
  | _ => .stuck
def kVOr (g : Sk → R PV) (x : PV) (S1 : Sk) : R PV := match x with
  | .bl true => .ok (.bl true) S1
  | .bl false => g S1
  | _ => .stuck
def kVNot (x : PV) (S1 : Sk) : R PV := match x with
  | .bl b => .ok (.bl (!b)) S1
  | _ => .stuck
@[simp] theorem vAndF_ap : vAndF f f2 S = (f S).bind (kVAnd f2) := rfl
@[simp] theorem vOrF_ap : vOrF f f2 S = (f S).bind (kVOr f2) := rfl
@[simp] theorem vNotF_ap : vNotF f S = (f S).bind kVNot := rfl
@[simp] theorem kVAnd_t : kVAnd f (.bl true) S = f S := rfl
@[simp] theorem kVAnd_f : kVAnd f (.bl false) S = .ok (.bl false) S := rfl
@[simp] theorem kVOr_t : kVOr f (.bl true) S = .ok (.bl true) S := rfl
@[simp] theorem kVOr_f : kVOr f (.bl false) S = f S := rfl
@[simp] theorem kVNot_ap (b : Bool) : kVNot (.bl b) S = .ok (.bl (!b)) S := rfl
def kIf (g h : Sk → R PV) (b : Bool) (S1 : Sk) : R PV := if b = true then g S1 else h S1
@[simp] theorem ifF_ap : ifF ft f f2 S = (ft S).bind (kIf f f2) := rfl
@[simp] theorem kIf_t : kIf f f2 true S = f S := rfl
@[simp] theorem kIf_f : kIf f f2 false S = f2 S := rfl
/-- targets -/
@[simp] theorem gSet_ap : gSet i x S = if unpinned S i = true then some (S.set i (.val x)) else none := rfl
def oGs (r : List PV → Sk → Option Sk) (xs : List PV) (s : Option Sk) : Option Sk := match s with
  | some S1 => r xs S1
  | none => none
@[simp] theorem gsNil_ap : gsNil [] S = some S := rfl
@[simp] theorem gsCons_ap (g : PV → Sk → Option Sk) (r : List PV → Sk → Option Sk) (xs : List PV) : gsCons g r (x :: xs) S = oGs r xs (g x S) := rfl
@[simp] theorem oGs_s (r : List PV → Sk → Option Sk) (xs : List PV) : oGs r xs (some S) = r xs S := rfl
@[simp] theorem gTupF_ap (n : Nat) (g : List PV → Sk → Option Sk) (xs : List PV) : gTupF n g (.tup xs) S = if xs.length = n then g xs S else none := rfl
/-- a method of a list of ours -/
def kMut2 (j : Nat) (sem : PV → List PV → Option (PV × PV)) (c : Option PV) (a : Option (List PV)) (S1 : Sk) : R PV := match c, a with
  | some c, some ps => (match sem c ps with
    | some (z, c') => .ok z (putO S1 j c')
    | none => .stuck)
  | _, _ => .stuck
def kMut1 (j : Nat) (ag : Sk → List OV → Option (List PV)) (sem : PV → List PV → Option (PV × PV)) (os : List OV) (S1 : Sk) : R PV := kMut2 j sem (getO S1 j) (ag S1 os) S1
def kMut0 (j : Nat) (ag : Sk → List OV → Option (List PV)) (sem : PV → List PV → Option (PV × PV)) (fa : Sk → R (List OV)) (c : Option PV) (S : Sk) : R PV := match c with
  | some (.lst _) => (fa S).bind (kMut1 j ag sem)
  | _ => .stuck
section
variable {ag : Sk → List OV → Option (List PV)} {sem : PV → List PV → Option (PV × PV)} {xs ps : List PV}
@[simp] theorem mutF_ap : mutF j ag sem fa S = kMut0 j ag sem fa (getO S j) S := rfl
@[simp] theorem kMut0_ap : kMut0 j ag sem fa (some (.lst xs)) S = (fa S).bind (kMut1 j ag sem) := rfl
@[simp] theorem kMut1_ap : kMut1 j ag sem os S = kMut2 j sem (getO S j) (ag S os) S := rfl
def kMut3 (j : Nat) (r : Option (PV × PV)) (S1 : Sk) : R PV := match r with
  | some (z, c') => .ok z (putO S1 j c')
  | none => .stuck
@[simp] theorem kMut2_ap : kMut2 j sem (some p) (some ps) S = kMut3 j (sem p ps) S := rfl
@[simp] theorem kMut3_ap : kMut3 j (some (z, p)) S = .ok z (putO S j p) := rfl
@[simp] theorem agV_ap : agV S os = valsOf os := rfl
end
/-- what is walked -/
def kSeqL (j : Nat) (c : Option PV) (S1 : Sk) : R (List PV × Option Nat) := match c with
  | some (.lst xs) => .ok (xs, some j) S1
  | _ => .stuck
def kSeq (o : OV) (S1 : Sk) : R (List PV × Option Nat) := match o with
  | .v (.lst xs) => .ok (xs, none) S1
  | .v (.tup xs) => .ok (xs, none) S1
  | .v (.scr ns) => .ok (ns.map .int, none) S1
  | .v (.str z) => .ok (chrP z, none) S1
  | .s j => kSeqL j (getO S1 j) S1
  | _ => .stuck
theorem seqI_ap' : seqI fo S = (fo S).bind kSeq := by
  unfold seqI
  congr 1
section
variable {xs ys ps : List PV}
@[simp] theorem seqI_ap : seqI fo S = (fo S).bind kSeq := seqI_ap'
@[simp] theorem kSeq_l : kSeq (.v (.lst xs)) S = .ok (xs, none) S := rfl
@[simp] theorem kSeq_t : kSeq (.v (.tup xs)) S = .ok (xs, none) S := rfl
@[simp] theorem kSeq_c (ns : List Int) : kSeq (.v (.scr ns)) S = .ok (ns.map .int, none) S := rfl
@[simp] theorem kSeq_s : kSeq (.s j) S = kSeqL j (getO S j) S := rfl
@[simp] theorem kSeqL_s : kSeqL j (some (.lst xs)) S = .ok (xs, some j) S := rfl
def kArg2 (r : Option (List PV)) (S1 : Sk) : R (List PV × Option Nat) := match r with
  | some ys => .ok (ys, none) S1
  | none => .stuck
def kArg1 (sem : List PV → Option (List PV)) (c : Option (List PV)) (S1 : Sk) : R (List PV × Option Nat) := match c with
  | some xs => kArg2 (sem xs) S1
  | none => .stuck
def kArg (sem : List PV → Option (List PV)) (os : List OV) (S1 : Sk) : R (List PV × Option Nat) := kArg1 sem (valsOf os) S1
@[simp] theorem argI_ap (sem : List PV → Option (List PV)) : argI sem fa S = (fa S).bind (kArg sem) := rfl
@[simp] theorem kArg_ap (sem : List PV → Option (List PV)) : kArg sem os S = kArg1 sem (valsOf os) S := rfl
@[simp] theorem kArg1_s (sem : List PV → Option (List PV)) : kArg1 sem (some xs) S = kArg2 (sem xs) S := rfl
@[simp] theorem kArg2_s : kArg2 (some ys) S = .ok (ys, none) S := rfl
end
/-- calls -/
def kCall {α : Type} (fn : Fn) (pick : RV → Option α) (os : List OV) (S1 : Sk) : R α := if (slotsOf os).Nodup then (match argsOf S1 os with
  | none => .stuck
  | some args => (match fn args with
    | .stuck => .stuck
    | .ok r outs => (match pick r, putOuts S1 os outs with
      | some x, some S2 => .ok x S2
      | _, _ => .stuck)
    | .exc e outs => (match putOuts S1 os outs with
      | some S2 => .exc e S2
      | none => .stuck))) else .stuck
def kCallX (fn : Fn) : List OV → Sk → R RV := kCall fn some
@[simp] theorem callX_ap (fn : Fn) : callX fn fa S = (fa S).bind (kCallX fn) := rfl
def kFor (g : PV → Sk → Option Sk) (F : Sk → O) (r : List PV × Option Nat) (S1 : Sk) : O := (loopF g F r.1 (hideL (mkLd S1 r.2) S1)).give (mkLd S1 r.2)
@[simp] theorem forF_ap (fi : Sk → R (List PV × Option Nat)) (g : PV → Sk → Option Sk) : forF fi g F S = (fi S).toO (kFor g F) := rfl
/-- over what is not ours -/
theorem kFor_ap (g : PV → Sk → Option Sk) (xs : List PV) : kFor g F (xs, none) S = loopF g F xs S := by
  show (loopF g F xs S).give none = _
  cases loopF g F xs S <;> rfl
@[simp] theorem mkFn_ap (np n : Nat) (B : Sk → O) (args : List Sl) : mkFn np n B args = if args.length = np then (B (args ++ List.replicate (n - np) .no)).toFR args else .stuck := rfl
@[simp] theorem toFR_rt (args : List Sl) (r : RV) : (O.rt r S).toFR args = if ioOk args S = true then .ok r S else .stuck := rfl
@[simp] theorem toFR_nx (args : List Sl) : (O.nx S).toFR args = if ioOk args S = true then .ok (.v .non) S else .stuck := rfl
@[simp] theorem ioOk_nil : ioOk [] S = true := rfl
@[simp] theorem ioOk_v (as : List Sl) (s : Sl) : ioOk (.val x :: as) (s :: S) = ioOk as S := by cases s <;> rfl
@[simp] theorem ioOk_i (as : List Sl) : ioOk (.io x :: as) (.io y :: S) = ioOk as S := rfl
end
theorem pOk_int (i : Int) : pOk (.int i) = true := rfl
theorem pOk_bl (i : Bool) : pOk (.bl i) = true := rfl
theorem pOk_non : pOk .non = true := rfl
@[simp] theorem sEq_int (a b : Int) : sEq (.int a) (.int b) = some (.bl (decide (a = b))) := by
  unfold sEq
  rw [if_pos ⟨pOk_int a, pOk_int b⟩]
  simp [pEqv, toPD, PyData.eqv]
  by_cases h : a = b <;> simp [h]
@[simp] theorem sNe_int (a b : Int) : sNe (.int a) (.int b) = some (.bl (!decide (a = b))) := by
  unfold sNe
  rw [if_pos ⟨pOk_int a, pOk_int b⟩]
  simp [pEqv, toPD, PyData.eqv]
  by_cases h : a = b <;> simp [h]
@[simp] theorem sEq_bl (a b : Bool) : sEq (.bl a) (.bl b) = some (.bl (decide (a = b))) := by
  unfold sEq
  rw [if_pos ⟨pOk_bl a, pOk_bl b⟩]
  cases a <;> cases b <;> rfl
@[simp] theorem sNe_bl (a b : Bool) : sNe (.bl a) (.bl b) = some (.bl (!decide (a = b))) := by
  unfold sNe
  rw [if_pos ⟨pOk_bl a, pOk_bl b⟩]
  cases a <;> cases b <;> rfl
@[simp] theorem sOrd_lt (a b : Int) : sOrd .Lt (.int a) (.int b) = some (.bl (decide (a < b))) := by
  unfold sOrd
  rw [if_pos ⟨pOk_int a, pOk_int b⟩]
  rfl
@[simp] theorem sOrd_le (a b : Int) : sOrd .LtE (.int a) (.int b) = some (.bl (decide (a ≤ b))) := by
  unfold sOrd
  rw [if_pos ⟨pOk_int a, pOk_int b⟩]
  rfl
@[simp] theorem sOrd_gt (a b : Int) : sOrd .Gt (.int a) (.int b) = some (.bl (decide (b < a))) := by
  unfold sOrd
  rw [if_pos ⟨pOk_int a, pOk_int b⟩]
  rfl
@[simp] theorem sOrd_ge (a b : Int) : sOrd .GtE (.int a) (.int b) = some (.bl (decide (b ≤ a))) := by
  unfold sOrd
  rw [if_pos ⟨pOk_int a, pOk_int b⟩]
  rfl
@[simp] theorem sAddX_int (a b : Int) : sAddX (.int a) (.int b) = some (.v (.int (a + b))) := rfl
@[simp] theorem sSub_int (a b : Int) : sSub (.int a) (.int b) = some (.int (a - b)) := rfl
@[simp] theorem sIntAdd (a b : Int) : sInt yes2 (fun i j => i + j) (.int a) (.int b) = some (.int (a + b)) := rfl
@[simp] theorem sIntSub (a b : Int) : sInt yes2 (fun i j => i - j) (.int a) (.int b) = some (.int (a - b)) := rfl
theorem sMod_int {a b : Int} (h : 0 < b) : sMod (.int a) (.int b) = some (.int (a % b)) := by
  show (if dMod a b = true then _ else _) = _
  rw [if_pos (show dMod a b = true from decide_eq_true h)]
theorem sDiv_int {a b : Int} (h : 0 < b) (h2 : b.natAbs.log2 < 9000) : sDiv (.int a) (.int b) = some (.int (a / b)) := by
  show (if dDiv a b = true then _ else _) = _
  rw [if_pos (show dDiv a b = true from decide_eq_true ⟨h, h2⟩)]
theorem sMul_int {a b : Int} (h : (-(2 ^ 64) < a ∧ a < 2 ^ 64) ∨ (-(2 ^ 64) < b ∧ b < 2 ^ 64) ∨ a.natAbs.log2 + b.natAbs.log2 < 1000000) : sMul (.int a) (.int b) = some (.int (a * b)) := by
  show (if dMul a b = true then _ else _) = _
  rw [if_pos (show dMul a b = true from decide_eq_true h)]
theorem sMul_left {a b : Int} (h : -(2 ^ 64) < a) (h2 : a < 2 ^ 64) : sMul (.int a) (.int b) = some (.int (a * b)) := sMul_int (.inl ⟨h, h2⟩)
theorem sMul_right {a b : Int} (h : -(2 ^ 64) < b) (h2 : b < 2 ^ 64) : sMul (.int a) (.int b) = some (.int (a * b)) := sMul_int (.inr (.inl ⟨h, h2⟩))
theorem sPow_int {a b : Int} (h : 0 ≤ b) (h2 : b ≤ 1000000) (h3 : a.natAbs < 2 ^ 64) : sPow (.int a) (.int b) = some (.int (a ^ b.toNat)) := by
  show (if dPow a b = true then _ else _) = _
  rw [if_pos (show dPow a b = true from decide_eq_true ⟨h, h2, h3⟩)]
theorem sShl_int {a b : Int} (h : 0 ≤ b) (h2 : b ≤ 1000000) (h3 : a.natAbs < 2 ^ 64) : sShl (.int a) (.int b) = some (.int (a * 2 ^ b.toNat)) := by
  show (if dPow a b = true then _ else _) = _
  rw [if_pos (show dPow a b = true from decide_eq_true ⟨h, h2, h3⟩)]
@[simp] theorem sAbs_int (a : Int) : sAbs [.int a] = some (.int (if a < 0 then -a else a)) := rfl
@[simp] theorem sToInt_int (a : Int) : sToInt [.int a] = some (.int a) := rfl
@[simp] theorem sMax2_int (a b : Int) : sMax2 [.int a, .int b] = some (.int (if b > a then b else a)) := rfl
@[simp] theorem sMin2_int (a b : Int) : sMin2 [.int a, .int b] = some (.int (if b < a then b else a)) := rfl
@[simp] theorem sLen_tup (xs : List PV) : sLen [.tup xs] = some (.int xs.length) := rfl
@[simp] theorem sLen_lst (xs : List PV) : sLen [.lst xs] = some (.int xs.length) := rfl
@[simp] theorem sLen_scr (xs : List Int) : sLen [.scr xs] = some (.int xs.length) := rfl
@[simp] theorem sIs_non (neg : Bool) (x : PV) : sIs neg x .non = some (.bl (if neg = true then !isNon x else isNon x)) := by
  unfold sIs
  cases neg <;> rfl
@[simp] theorem isNon_int (i : Int) : isNon (.int i) = false := rfl
@[simp] theorem isNon_bl (i : Bool) : isNon (.bl i) = false := rfl
@[simp] theorem isNon_non : isNon .non = true := rfl
@[simp] theorem isNon_tup (xs : List PV) : isNon (.tup xs) = false := rfl
@[simp] theorem isNon_lst (xs : List PV) : isNon (.lst xs) = false := rfl
@[simp] theorem isNon_str (x : Str) : isNon (.str x) = false := rfl
@[simp] theorem sIx0 (x : PV) (xs : List PV) : sIx (.tup (x :: xs)) (.int 0) = some x := by
  show atI (x :: xs) 0 = some x
  unfold atI ixN
  rw [if_pos (Int.le_refl 0), if_pos (by simp)]
  rfl
@[simp] theorem sIx1 (x y : PV) (xs : List PV) : sIx (.tup (x :: y :: xs)) (.int 1) = some y := by
  show atI (x :: y :: xs) 1 = some y
  unfold atI ixN
  rw [if_pos (by omega), if_pos (by simp; omega)]
  rfl
@[simp] theorem sIxL0 (x : PV) (xs : List PV) : sIx (.lst (x :: xs)) (.int 0) = some x := sIx0 x xs
@[simp] theorem sIxL1 (x y : PV) (xs : List PV) : sIx (.lst (x :: y :: xs)) (.int 1) = some y := sIx1 x y xs
theorem sIx_tup (xs : List PV) (i : Int) : sIx (.tup xs) (.int i) = atI xs i := rfl

/-! ### calls by values -/
/-- with values alone it gives r -/
def Gv (fn : Fn) (args : List PV) (r : RV) : Prop := ∃ outs, fn (args.map Sl.val) = .ok r outs ∧ args.length ≤ outs.length
theorem argsOf_vals (S : Sk) : ∀ xs : List PV, argsOf S (xs.map OV.v) = some (xs.map Sl.val)
  | [] => rfl
  | x :: xs => by
    show (match argOf S (.v x), argsOf S (xs.map OV.v) with
      | some a, some as => some (a :: as)
      | _, _ => none) = _
    rw [argsOf_vals S xs]
    rfl
theorem slots_vals : ∀ xs : List PV, slotsOf (xs.map OV.v) = []
  | [] => rfl
  | x :: xs => slots_vals xs
theorem putOuts_vals (S : Sk) : ∀ (xs : List PV) (outs : List Sl), xs.length ≤ outs.length → putOuts S (xs.map OV.v) outs = some S
  | [], outs, _ => by unfold putOuts; rfl
  | x :: xs, [], h => by cases h
  | x :: xs, o :: outs, h => putOuts_vals S xs outs (Nat.le_of_succ_le_succ h)
theorem call_vals {fn : Fn} {S1 : Sk} {xs : List PV} {r : RV} (hg : Gv fn xs r) : kCallX fn (xs.map OV.v) S1 = .ok r S1 := by
  obtain ⟨outs, h1, h2⟩ := hg
  unfold kCallX kCall
  rw [slots_vals, if_pos List.nodup_nil, argsOf_vals]
  dsimp only
  rw [h1]
  dsimp only
  rw [putOuts_vals S1 xs outs h2]
theorem call1 {fn : Fn} {S1 : Sk} {x : PV} {r : RV} (hg : Gv fn [x] r) : kCallX fn [.v x] S1 = .ok r S1 := call_vals hg
theorem call2 {fn : Fn} {S1 : Sk} {x y : PV} {r : RV} (hg : Gv fn [x, y] r) : kCallX fn [.v x, .v y] S1 = .ok r S1 := call_vals hg
theorem call3 {fn : Fn} {S1 : Sk} {x y z : PV} {r : RV} (hg : Gv fn [x, y, z] r) : kCallX fn [.v x, .v y, .v z] S1 = .ok r S1 := call_vals hg
theorem call4 {fn : Fn} {S1 : Sk} {x y z u : PV} {r : RV} (hg : Gv fn [x, y, z, u] r) : kCallX fn [.v x, .v y, .v z, .v u] S1 = .ok r S1 := call_vals hg
/-- the first goes by its slot -/
theorem call_io {fn : Fn} {S1 : Sk} {j : Nat} {c c' : PV} {xs : List PV} {r : RV} {outs : List Sl} (hc : getO S1 j = some c) (hf : fn (.io c :: xs.map Sl.val) = .ok r (.io c' :: outs)) (hl : xs.length ≤ outs.length) :
    kCallX fn (.s j :: xs.map OV.v) S1 = .ok r (putO S1 j c') := by
  unfold kCallX kCall
  have e1 : slotsOf (OV.s j :: xs.map OV.v) = [j] := congrArg (j :: ·) (slots_vals xs)
  have e2 : argsOf S1 (OV.s j :: xs.map OV.v) = some (.io c :: xs.map Sl.val) := by
    show (match (getO S1 j).map Sl.io, argsOf S1 (xs.map OV.v) with
      | some a, some as => some (a :: as)
      | _, _ => none) = _
    rw [argsOf_vals, hc]
    rfl
  rw [e1, if_pos (show [j].Nodup by simp), e2]
  dsimp only
  rw [hf]
  dsimp only
  rw [show putOuts S1 (OV.s j :: xs.map OV.v) (.io c' :: outs) = putOuts (putO S1 j c') (xs.map OV.v) outs from rfl, putOuts_vals _ xs outs hl]
theorem rngP_zero (lo : Int) : rngP lo 0 = [] := rfl
theorem rngP_succ (lo : Int) (n : Nat) : rngP lo (n + 1) = .int lo :: rngP (lo + 1) n := by
  unfold rngP
  rw [List.range_succ_eq_map, List.map_cons, List.map_map]
  congr 1
  · simp
  · apply List.map_congr_left
    intro i _
    show PV.int (lo + ((i + 1 : Nat) : Int)) = .int (lo + 1 + (i : Int))
    congr 1
    omega
theorem rngP_mem {lo : Int} {n : Nat} {x : PV} (h : x ∈ rngP lo n) : ∃ i : Nat, i < n ∧ x = .int (lo + i) := by
  unfold rngP at h
  obtain ⟨i, hi, rfl⟩ := List.mem_map.mp h
  exact ⟨i, List.mem_range.mp hi, rfl⟩
/-- a loop by an invariant that every turn keeps -/
theorem loopF_inv {g : PV → Sk → Option Sk} {F : Sk → O} (P : Sk → Prop) : ∀ (xs : List PV) (S : Sk), P S → (∀ x ∈ xs, ∀ S, P S → ∃ S1 S2, g x S = some S1 ∧ (F S1 = .nx S2 ∨ F S1 = .ct S2) ∧ P S2) → ∃ S', loopF g F xs S = .nx S' ∧ P S'
  | [], S, h, _ => ⟨S, rfl, h⟩
  | x :: xs, S, h, step => by
    obtain ⟨S1, S2, h1, h2, h3⟩ := step x List.mem_cons_self S h
    obtain ⟨S', h4, h5⟩ := loopF_inv P xs S2 h3 fun y hy => step y (List.mem_cons_of_mem _ hy)
    refine ⟨S', ?_, h5⟩
    unfold loopF
    rw [h1]
    dsimp only
    rcases h2 with h2 | h2 <;> (rw [h2]; exact h4)
theorem while_step {c : Sk → R Bool} {F : Sk → O} {S S1 S2 : Sk} (h1 : c S = .ok true S1) (h2 : F S1 = .nx S2) : whileF c F S = whileF c F S2 := by
  rw [whileF_eq, h1, R.toO_ok, if_pos rfl, h2]
theorem while_end {c : Sk → R Bool} {F : Sk → O} {S S1 : Sk} (h1 : c S = .ok false S1) : whileF c F S = .nx S1 := by
  rw [whileF_eq, h1, R.toO_ok, if_neg Bool.false_ne_true]
theorem loop_nil {g : PV → Sk → Option Sk} {F : Sk → O} {S : Sk} : loopF g F [] S = .nx S := rfl
theorem loop_nx {g : PV → Sk → Option Sk} {F : Sk → O} {S S1 S2 : Sk} {x : PV} {xs : List PV} (h1 : g x S = some S1) (h2 : F S1 = .nx S2) : loopF g F (x :: xs) S = loopF g F xs S2 := by
  show (match g x S with
    | none => O.stuck
    | some S1 => match F S1 with
      | .nx S2 => loopF g F xs S2
      | .ct S2 => loopF g F xs S2
      | .bk S2 => .nx S2
      | .rt r S2 => .rt r S2
      | .exc e S2 => .exc e S2
      | .stuck => .stuck) = _
  rw [h1]
  dsimp only
  rw [h2]
theorem loop_rt {g : PV → Sk → Option Sk} {F : Sk → O} {S S1 S2 : Sk} {x : PV} {xs : List PV} {r : RV} (h1 : g x S = some S1) (h2 : F S1 = .rt r S2) : loopF g F (x :: xs) S = .rt r S2 := by
  show (match g x S with
    | none => O.stuck
    | some S1 => match F S1 with
      | .nx S2 => loopF g F xs S2
      | .ct S2 => loopF g F xs S2
      | .bk S2 => .nx S2
      | .rt r S2 => .rt r S2
      | .exc e S2 => .exc e S2
      | .stuck => .stuck) = _
  rw [h1]
  dsimp only
  rw [h2]
def kFka2 (n m : Nat) (is : List Nat) (os ks : List OV) (S2 : Sk) : R (List OV) := if os.length = n ∧ ks.length = m then .ok (gI is (os ++ ks)) S2 else .stuck
def kFka (n m : Nat) (is : List Nat) (fk : Sk → R (List OV)) (os : List OV) (S1 : Sk) : R (List OV) := (fk S1).bind (kFka2 n m is os)
@[simp] theorem fka_ap (n m : Nat) (is : List Nat) (fa fk : Sk → R (List OV)) (S : Sk) : fka n m is fa fk S = (fa S).bind (kFka n m is fk) := rfl
@[simp] theorem kFka_ap (n m : Nat) (is : List Nat) (fk : Sk → R (List OV)) (os : List OV) (S : Sk) : kFka n m is fk os S = (fk S).bind (kFka2 n m is os) := rfl
@[simp] theorem kFka2_ap (n m : Nat) (is : List Nat) (os ks : List OV) (S : Sk) : kFka2 n m is os ks S = if os.length = n ∧ ks.length = m then .ok (gI is (os ++ ks)) S else .stuck := rfl
@[simp] theorem gI_nil {α : Type} (l : List α) : gI [] l = [] := rfl
theorem log2_le {a : Int} {k : Nat} (h : a.natAbs < 2 ^ k) : a.natAbs.log2 ≤ k := by
  by_cases h0 : a.natAbs = 0
  · rw [h0]; exact Nat.zero_le _
  · exact Nat.le_of_lt ((Nat.log2_lt h0).mpr h)
@[simp] theorem sIx_scr (ns : List Int) (i : Int) : sIx (.scr ns) (.int i) = (atI ns i).map .int := by
  unfold sIx
  first | rfl | simp
theorem atI_in {α : Type} {l : List α} {i : Int} (h0 : 0 ≤ i) (h1 : i < l.length) : ∃ x, atI l i = some x := by
  unfold atI ixN
  rw [if_pos h0, if_pos h1]
  exact ⟨l[i.toNat]'(by omega), by simp⟩
end VL

set_option Elab.async false
set_option linter.all false
set_option autoImplicit false
set_option maxRecDepth 100000
set_option maxHeartbeats 4000000
namespace VP
open PySem L2 VL

def top (i : Nat) : Stmt := PySem.Challenge.pw_nolieholds_k82_how_many_rounds.main.body.getD i (.Pass ⟨0, 0, 0, 0⟩)
abbrev FnP (K : PySem.W.Frag) (x : Str) (st : Stmt) (f : Addr) (fd : FuncData) : Prop := FunD K x x (defArgs st) (defBody st) (defScope st) [] [] f fd
abbrev s_law_box : Stmt := top 12
abbrev n_law_box : List Str := ["script", "k", "cell", "great"]
theorem sc_law_box : FnScope n_law_box ["script", "k"] (defScope s_law_box) := ⟨rfl, rfl, rfl, by decide +kernel, rfl, by decide +kernel, by decide +kernel⟩
abbrev s_law_lowest : Stmt := top 10
abbrev n_law_lowest : List Str := ["above", "beneath", "one", "two"]
theorem sc_law_lowest : FnScope n_law_lowest ["above", "beneath"] (defScope s_law_lowest) := ⟨rfl, rfl, rfl, by decide +kernel, rfl, by decide +kernel, by decide +kernel⟩
abbrev s_law_like : Stmt := top 9
abbrev n_law_like : List Str := ["told", "due", "left", "turn", "one", "two"]
theorem sc_law_like : FnScope n_law_like ["told", "due"] (defScope s_law_like) := ⟨rfl, rfl, rfl, by decide +kernel, rfl, by decide +kernel, by decide +kernel⟩
abbrev s_law_take : Stmt := top 8
abbrev n_law_take : List Str := ["box", "many", "raw", "digit"]
theorem sc_law_take : FnScope n_law_take ["box", "many"] (defScope s_law_take) := ⟨rfl, rfl, rfl, by decide +kernel, rfl, by decide +kernel, by decide +kernel⟩
abbrev s_is_less0 : Stmt := top 3
abbrev n_is_less0 : List Str := ["one", "two"]
theorem sc_is_less0 : FnScope n_is_less0 ["one", "two"] (defScope s_is_less0) := ⟨rfl, rfl, rfl, by decide +kernel, rfl, by decide +kernel, by decide +kernel⟩
abbrev s_common_part0 : Stmt := top 1
abbrev n_common_part0 : List Str := ["one", "two"]
theorem sc_common_part0 : FnScope n_common_part0 ["one", "two"] (defScope s_common_part0) := ⟨rfl, rfl, rfl, by decide +kernel, rfl, by decide +kernel, by decide +kernel⟩
abbrev s_fraction_of0 : Stmt := top 2
abbrev n_fraction_of0 : List Str := ["above", "beneath", "part"]
theorem sc_fraction_of0 : FnScope n_fraction_of0 ["above", "beneath"] (defScope s_fraction_of0) := ⟨rfl, rfl, rfl, by decide +kernel, rfl, by decide +kernel, by decide +kernel⟩
abbrev s_middle0 : Stmt := top 4
abbrev n_middle0 : List Str := ["one", "two"]
theorem sc_middle0 : FnScope n_middle0 ["one", "two"] (defScope s_middle0) := ⟨rfl, rfl, rfl, by decide +kernel, rfl, by decide +kernel, by decide +kernel⟩
abbrev s_rounds_till0 : Stmt := top 6
abbrev n_rounds_till0 : List Str := ["gap", "small", "rounds"]
theorem sc_rounds_till0 : FnScope n_rounds_till0 ["gap", "small"] (defScope s_rounds_till0) := ⟨rfl, rfl, rfl, by decide +kernel, rfl, by decide +kernel, by decide +kernel⟩
abbrev s_law_less_than : Stmt := top 11
abbrev n_law_less_than : List Str := ["one", "two"]
theorem sc_law_less_than : FnScope n_law_less_than ["one", "two"] (defScope s_law_less_than) := ⟨rfl, rfl, rfl, by decide +kernel, rfl, by decide +kernel, by decide +kernel⟩
abbrev s_law0 : Stmt := top 13
abbrev n_law0 : List Str := ["script", "k", "box", "small", "times", "gap", "told"]
theorem sc_law0 : FnScope n_law0 ["script"] (defScope s_law0) := ⟨rfl, rfl, rfl, by decide +kernel, rfl, by decide +kernel, by decide +kernel⟩
structure Facts (K : PySem.W.Frag) (mg : Str → Option Value) : Type where
  a_law_box : Addr
  d_law_box : FuncData
  F_law_box : FnP K "_law_box" s_law_box a_law_box d_law_box
  g_law_box : mg "_law_box" = some (.ref a_law_box)
  a_law_lowest : Addr
  d_law_lowest : FuncData
  F_law_lowest : FnP K "_law_lowest" s_law_lowest a_law_lowest d_law_lowest
  g_law_lowest : mg "_law_lowest" = some (.ref a_law_lowest)
  a_law_like : Addr
  d_law_like : FuncData
  F_law_like : FnP K "_law_like" s_law_like a_law_like d_law_like
  g_law_like : mg "_law_like" = some (.ref a_law_like)
  a_law_take : Addr
  d_law_take : FuncData
  F_law_take : FnP K "_law_take" s_law_take a_law_take d_law_take
  g_law_take : mg "_law_take" = some (.ref a_law_take)
  a_is_less0 : Addr
  d_is_less0 : FuncData
  F_is_less0 : FnP K "is_less" s_is_less0 a_is_less0 d_is_less0
  g_is_less0 : mg "is_less" = some (.ref a_is_less0)
  a_common_part0 : Addr
  d_common_part0 : FuncData
  F_common_part0 : FnP K "common_part" s_common_part0 a_common_part0 d_common_part0
  g_common_part0 : mg "common_part" = some (.ref a_common_part0)
  a_fraction_of0 : Addr
  d_fraction_of0 : FuncData
  F_fraction_of0 : FnP K "fraction_of" s_fraction_of0 a_fraction_of0 d_fraction_of0
  g_fraction_of0 : mg "fraction_of" = some (.ref a_fraction_of0)
  a_middle0 : Addr
  d_middle0 : FuncData
  F_middle0 : FnP K "middle" s_middle0 a_middle0 d_middle0
  g_middle0 : mg "middle" = some (.ref a_middle0)
  a_rounds_till0 : Addr
  d_rounds_till0 : FuncData
  F_rounds_till0 : FnP K "rounds_till" s_rounds_till0 a_rounds_till0 d_rounds_till0
  g_rounds_till0 : mg "rounds_till" = some (.ref a_rounds_till0)
  a_law_less_than : Addr
  d_law_less_than : FuncData
  F_law_less_than : FnP K "_law_less_than" s_law_less_than a_law_less_than d_law_less_than
  g_law_less_than : mg "_law_less_than" = some (.ref a_law_less_than)
  a_law0 : Addr
  d_law0 : FuncData
  F_law0 : FnP K "law" s_law0 a_law0 d_law0
  g_law0 : mg "law" = some (.ref a_law0)
  n_len : mg "len" = none
  n_abs : mg "abs" = none
  n_int : mg "int" = none
  n_range : mg "range" = none
  n_isinstance : mg "isinstance" = none
  n_bool : mg "bool" = none
  n_tuple : mg "tuple" = none
  n_str : mg "str" = none
  n_list : mg "list" = none
  n_zip : mg "zip" = none
  n_max : mg "max" = none
  n_min : mg "min" = none
noncomputable def B_law_box : Sk → O :=
    seqF (setX (op2X sAddX (opv (op2 sMul (opv (cst (.int 5849))) (opx 1))) (opv (cst (.int 7517)))) 2)
    (seqF (ifS (tst (op2 (sOrd .Lt) (opx 1) (opv (opA sLen (aCons (opx 0) (aNil)))))) (setX (xV (opA sAbs (aCons (opv (opA sToInt (aCons (opv (op2 sIx (opx 0) (opx 1))) (aNil)))) (aNil)))) 2) (ifS (tst (op2 (sOrd .Gt) (opv (opA sLen (aCons (opx 0) (aNil)))) (opv (cst (.int 0))))) (setX (op2X sAddX (opx 2) (opv (op2 sMul (opv (op2 sMod (opv (opA sToInt (aCons (opv (opA sAbs (aCons (opv (opA sToInt (aCons (opv (op2 sIx (opx 0) (opv (op2 sMod (opv (opA sToInt (aCons (opx 1) (aNil)))) (opv (opA sLen (aCons (opx 0) (aNil)))))))) (aNil)))) (aNil)))) (aNil)))) (opv (cst (.int 2147483563))))) (opv (cst (.int 56993)))))) 2) (nxF)))
    (seqF (setX (xV (ifF (tst (op2 (sOrd .GtE) (opx 2) (opv (op2 sPow (opv (cst (.int 10))) (opv (cst (.int 18))))))) (shareF 2) (cst (.int 0)))) 3)
    (retX (xL (dispF .lst (aCons (opv (shareF 3)) (aCons (opv (fz (op2X sAddX (opv (op2 sMod (opv (opA sToInt (aCons (opv (fz (op2X sAddX (opv (op2 sMul (opv (op2 sMod (opv (opA sToInt (aCons (opx 2) (aNil)))) (opv (cst (.int 2147483563))))) (opv (cst (.int 40014))))) (opv (op2 sMul (opv (cst (.int 7517))) (opx 1)))))) (aNil)))) (opv (cst (.int 2147483563))))) (opv (cst (.int 1)))))) (aNil))))))))
noncomputable def F_law_box : Fn := mkFn 2 4 B_law_box
noncomputable def C1_law_lowest : Sk → R Bool := tst (op2 sNe (opx 3) (opv (cst (.int 0))))
noncomputable def L1_law_lowest : Sk → O :=
    parF 2 3 (aCons (opv (shareF 3)) (aCons (opv (op2 sMod (opx 2) (opx 3))) (aNil)))
noncomputable def B_law_lowest : Sk → O :=
    seqF (parF 2 3 (aCons (opv (opA sAbs (aCons (opx 0) (aNil)))) (aCons (opv (shareF 1)) (aNil))))
    (seqF (whileF C1_law_lowest L1_law_lowest)
    (retX (xV (dispF .tup (aCons (opv (op2 sDiv (opx 0) (opx 2))) (aCons (opv (op2 sDiv (opx 1) (opx 2))) (aNil)))))))
noncomputable def F_law_lowest : Fn := mkFn 2 4 B_law_lowest
noncomputable def L1_law_like : Sk → O :=
    seqF (ifS (tst (op2 sEq (opx 2) (opv (dispF .lst (aNil))))) (retX (xV (cst (.bl true)))) (nxF))
    (seqF (asgF (mutF 2 agV sPop aNil) (gTupF 2 (gsCons (gSet 4) (gsCons (gSet 5) (gsNil)))))
    (ifS (tst (op2 (sIs false) (opx 5) (opv (cst .non)))) (ifS (tst (op2 (sIs true) (opx 4) (opv (cst .non)))) (retX (xV (cst (.bl false)))) (nxF)) (ifS (tst (isiF .bool (opx 5))) (ifS (tOrF (tNotF (tst (isiF .bool (opx 4)))) (tst (op2 sNe (opx 4) (opx 5)))) (retX (xV (cst (.bl false)))) (nxF)) (ifS (tst (isiF .tuple (opx 5))) (seqF (ifS (tOrF (tNotF (tst (isiF .tuple (opx 4)))) (tst (op2 sNe (opv (opA sLen (aCons (opx 4) (aNil)))) (opv (opA sLen (aCons (opx 5) (aNil))))))) (retX (xV (cst (.bl false)))) (nxF))
    (exprF (mutF 2 lookAll sExtend (aCons (opv (opA sListZip (aCons (opx 4) (aCons (opx 5) (aNil))))) (aNil))))) (ifS (tst (isiF .str (opx 5))) (ifS (tOrF (tNotF (tst (isiF .str (opx 4)))) (tst (op2 sNe (opx 4) (opx 5)))) (retX (xV (cst (.bl false)))) (nxF)) (ifS (tOrF (tNotF (tst (isiF .int (opx 4)))) (tOrF (tst (isiF .bool (opx 4))) (tst (op2 sNe (opx 4) (opx 5))))) (retX (xV (cst (.bl false)))) (nxF)))))))
noncomputable def B_law_like : Sk → O :=
    seqF (setX (xL (dispF .lst (aCons (opv (dispF .tup (aCons (opv (shareF 0)) (aCons (opv (shareF 1)) (aNil))))) (aNil)))) 2)
    (seqF (forF (argI sRng1 (aCons (opv (cst (.int 1000000))) (aNil))) (gSet 3) L1_law_like)
    (retX (xV (cst (.bl false)))))
noncomputable def F_law_like : Fn := mkFn 2 6 B_law_like
noncomputable def B_law_take : Sk → O :=
    seqF (ifS (tst (op2 (sOrd .Gt) (opv (op2 sIx (opx 0) (opv (cst (.int 0))))) (opv (cst (.int 0))))) (seqF (setX (xV (op2 sMod (opv (opA sToInt (aCons (opv (op2 sIx (opx 0) (opv (cst (.int 0))))) (aNil)))) (opx 1))) 3)
    (seqF (stF 0 (op2 sDiv (opv (op2 sIx (opx 0) (opv (cst (.int 0))))) (opx 1)) (cst (.int 0)))
    (retX (moveX 3)))) (nxF))
    (seqF (setX (xV (op2 sMod (opv (opA sToInt (aCons (opv (fz (op2X sAddX (opv (op2 sMul (opv (op2 sIx (opx 0) (opv (cst (.int 1))))) (opv (cst (.int 39373))))) (opv (cst (.int 419)))))) (aNil)))) (opv (cst (.int 2147483647))))) 2)
    (seqF (stF 0 (fz (op2X sAddX (opv (op2 sMod (opv (opA sToInt (aCons (opv (fz (op2X sAddX (opv (op2 sMul (opx 2) (opv (cst (.int 40692))))) (opv (cst (.int 43)))))) (aNil)))) (opv (cst (.int 2147483399))))) (opv (cst (.int 1))))) (cst (.int 1)))
    (retX (xV (op2 sMod (opv (opA sToInt (aCons (opv (op2 sDiv (opv (fz (op2X sAddX (opv (op2 sMul (opx 2) (opv (cst (.int 2147483629))))) (opv (op2 sIx (opx 0) (opv (cst (.int 1)))))))) (opv (cst (.int 8209))))) (aNil)))) (opx 1))))))
noncomputable def F_law_take : Fn := mkFn 2 4 B_law_take
noncomputable def B_is_less0 : Sk → O :=
    retX (xV (op2 (sOrd .Lt) (opv (op2 sMul (opv (op2 sIx (opx 0) (opv (cst (.int 0))))) (opv (op2 sIx (opx 1) (opv (cst (.int 1))))))) (opv (op2 sMul (opv (op2 sIx (opx 1) (opv (cst (.int 0))))) (opv (op2 sIx (opx 0) (opv (cst (.int 1)))))))))
noncomputable def F_is_less0 : Fn := mkFn 2 2 B_is_less0
noncomputable def C1_common_part0 : Sk → R Bool := tst (op2 (sOrd .Gt) (opx 1) (opv (cst (.int 0))))
noncomputable def L1_common_part0 : Sk → O :=
    parF 0 1 (aCons (opv (shareF 1)) (aCons (opv (op2 sMod (opx 0) (opx 1))) (aNil)))
noncomputable def B_common_part0 : Sk → O :=
    seqF (whileF C1_common_part0 L1_common_part0)
    (retX (moveX 0))
noncomputable def F_common_part0 : Fn := mkFn 2 2 B_common_part0
noncomputable def B_fraction_of0 : Sk → O :=
    seqF (setX (callX F_common_part0 (aCons (opv (opA sAbs (aCons (opx 0) (aNil)))) (aCons (opv (shareF 1)) (aNil)))) 2)
    (retX (xV (dispF .tup (aCons (opv (op2 sDiv (opx 0) (opx 2))) (aCons (opv (op2 sDiv (opx 1) (opx 2))) (aNil))))))
noncomputable def F_fraction_of0 : Fn := mkFn 2 3 B_fraction_of0
noncomputable def B_middle0 : Sk → O :=
    retX (callX F_fraction_of0 (aCons (opv (fz (op2X sAddX (opv (op2 sMul (opv (op2 sIx (opx 0) (opv (cst (.int 0))))) (opv (op2 sIx (opx 1) (opv (cst (.int 1))))))) (opv (op2 sMul (opv (op2 sIx (opx 1) (opv (cst (.int 0))))) (opv (op2 sIx (opx 0) (opv (cst (.int 1)))))))))) (aCons (opv (op2 sMul (opv (op2 sMul (opv (cst (.int 2))) (opv (op2 sIx (opx 0) (opv (cst (.int 1))))))) (opv (op2 sIx (opx 1) (opv (cst (.int 1))))))) (aNil))))
noncomputable def F_middle0 : Fn := mkFn 2 2 B_middle0
noncomputable def C1_rounds_till0 : Sk → R Bool := tst (fz (callX F_is_less0 (aCons (opv (shareF 1)) (aCons (opv (shareF 0)) (aNil)))))
noncomputable def L1_rounds_till0 : Sk → O :=
    seqF (setX (callX F_middle0 (aCons (opv (dispF .tup (aCons (opv (cst (.int 0))) (aCons (opv (cst (.int 1))) (aNil))))) (aCons (opv (shareF 0)) (aNil)))) 0)
    (augF 2 (sInt yes2 fun i j => i + j) (cst (.int 1)))
noncomputable def B_rounds_till0 : Sk → O :=
    seqF (setX (xV (cst (.int 0))) 2)
    (seqF (whileF C1_rounds_till0 L1_rounds_till0)
    (retX (moveX 2)))
noncomputable def F_rounds_till0 : Fn := mkFn 2 3 B_rounds_till0
noncomputable def B_law_less_than : Sk → O :=
    retX (xV (op2 (sOrd .Lt) (opv (op2 sMul (opv (op2 sIx (opx 0) (opv (cst (.int 0))))) (opv (op2 sIx (opx 1) (opv (cst (.int 1))))))) (opv (op2 sMul (opv (op2 sIx (opx 1) (opv (cst (.int 0))))) (opv (op2 sIx (opx 0) (opv (cst (.int 1)))))))))
noncomputable def F_law_less_than : Fn := mkFn 2 2 B_law_less_than
noncomputable def L1_law0 : Sk → O :=
    seqF (setX (callX F_rounds_till0 (fka 1 1 [0, 1] (aCons (opv (shareF 5)) (aNil)) (aCons (opv (shareF 3)) (aNil)))) 6)
    (seqF (ifS (tOrF (tNotF (tst (isiF .int (opx 6)))) (tOrF (tst (isiF .bool (opx 6))) (tOrF (tst (op2 (sOrd .Lt) (opx 6) (opv (cst (.int 0))))) (tst (op2 (sOrd .Gt) (opx 6) (opv (cst (.int 200)))))))) (retX (xV (cst (.bl false)))) (nxF))
    (seqF (ifS (tst (fz (callX F_law_less_than (aCons (opv (dispF .tup (aCons (opv (op2 sMul (opv (op2 sIx (opx 3) (opv (cst (.int 0))))) (opv (op2 sShl (opv (cst (.int 1))) (opx 6))))) (aCons (opv (op2 sIx (opx 3) (opv (cst (.int 1))))) (aNil))))) (aCons (opv (shareF 5)) (aNil)))))) (retX (xV (cst (.bl false)))) (nxF))
    (ifS (tAndF (tst (op2 (sOrd .Gt) (opx 6) (opv (cst (.int 0))))) (tNotF (tst (fz (callX F_law_less_than (aCons (opv (dispF .tup (aCons (opv (op2 sMul (opv (op2 sIx (opx 3) (opv (cst (.int 0))))) (opv (op2 sShl (opv (cst (.int 1))) (opv (op2 sSub (opx 6) (opv (cst (.int 1))))))))) (aCons (opv (op2 sIx (opx 3) (opv (cst (.int 1))))) (aNil))))) (aCons (opv (shareF 5)) (aNil)))))))) (retX (xV (cst (.bl false)))) (nxF))))
noncomputable def L2_law0 : Sk → O :=
    seqF (setX (callX F_law_box (aCons (opv (shareF 0)) (aCons (opv (shareF 1)) (aNil)))) 2)
    (seqF (setX (callX F_law_lowest (aCons (opv (fz (op2X sAddX (opv (cst (.int 1))) (opv (fz (callX F_law_take (aCons (opx 2) (aCons (opv (cst (.int 50))) (aNil))))))))) (aCons (opv (fz (op2X sAddX (opv (cst (.int 1))) (opv (fz (callX F_law_take (aCons (opx 2) (aCons (opv (cst (.int 50))) (aNil))))))))) (aNil)))) 3)
    (seqF (setX (xV (op2 sShl (opv (cst (.int 1))) (opv (fz (callX F_law_take (aCons (opx 2) (aCons (opv (cst (.int 30))) (aNil)))))))) 4)
    (forF (seqI (opv (dispF .lst (aCons (opv (fz (callX F_law_lowest (aCons (opv (op2 sMul (opv (op2 sIx (opx 3) (opv (cst (.int 0))))) (opx 4))) (aCons (opv (op2 sIx (opx 3) (opv (cst (.int 1))))) (aNil)))))) (aCons (opv (fz (callX F_law_lowest (aCons (opv (fz (op2X sAddX (opv (op2 sMul (opv (op2 sMul (opv (op2 sIx (opx 3) (opv (cst (.int 0))))) (opx 4))) (opv (cst (.int 97))))) (opv (cst (.int 1)))))) (aCons (opv (op2 sMul (opv (op2 sIx (opx 3) (opv (cst (.int 1))))) (opv (cst (.int 97))))) (aNil)))))) (aCons (opv (fz (callX F_law_lowest (aCons (opv (fz (callX F_law_take (aCons (opx 2) (aCons (opv (op2 sPow (opv (cst (.int 10))) (opv (cst (.int 6))))) (aNil)))))) (aCons (opv (fz (op2X sAddX (opv (cst (.int 1))) (opv (fz (callX F_law_take (aCons (opx 2) (aCons (opv (cst (.int 99))) (aNil))))))))) (aNil)))))) (aNil))))))) (gSet 5) L1_law0)))
noncomputable def B_law0 : Sk → O :=
    seqF (ifS (tOrF (tNotF (tst (fz (callX F_law_like (aCons (opv (fz (callX F_rounds_till0 (aCons (opv (dispF .tup (aCons (opv (cst (.int 10))) (aCons (opv (cst (.int 1))) (aNil))))) (aCons (opv (dispF .tup (aCons (opv (cst (.int 1))) (aCons (opv (cst (.int 1))) (aNil))))) (aNil)))))) (aCons (opv (cst (.int 4))) (aNil))))))) (tNotF (tst (fz (callX F_law_like (aCons (opv (fz (callX F_rounds_till0 (aCons (opv (dispF .tup (aCons (opv (cst (.int 0))) (aCons (opv (cst (.int 1))) (aNil))))) (aCons (opv (dispF .tup (aCons (opv (cst (.int 1))) (aCons (opv (cst (.int 9))) (aNil))))) (aNil)))))) (aCons (opv (cst (.int 0))) (aNil)))))))) (retX (xV (cst (.bl false)))) (nxF))
    (seqF (forF (argI sRng1 (aCons (opv (opA sMax2 (aCons (opv (cst (.int 6))) (aCons (opv (opA sMin2 (aCons (opv (opA sLen (aCons (opx 0) (aNil)))) (aCons (opv (cst (.int 16))) (aNil))))) (aNil))))) (aNil))) (gSet 1) L2_law0)
    (retX (xV (cst (.bl true)))))
noncomputable def F_law0 : Fn := mkFn 1 7 B_law0
section
variable {P : Program} {w : World} {K : PySem.W.Frag} {mg : Str → Option Value} {base : Heap}
theorem b_law_box (c : Facts K mg) : Binds K c.d_law_box ["script", "k"] [] := c.F_law_box.bindsN fun _ _ _ _ _ _ us hl => match us, hl with | [_, _], _ => rfl
theorem ok_law_box (c : Facts K mg) : FnOk P w K mg base (L2.CX P w) 1 c.a_law_box c.d_law_box ["script", "k"] (SpOf K mg F_law_box) :=
  fn_ok (N := n_law_box) c.F_law_box sc_law_box rfl (by decide) fun cdv A outer s H E hr tk => (show VSs _ _ _ B_law_box from
    vss_cons (vs_setX sc_law_box.nd (ex_add (eo_ev (ev_bin op_mulB s_mul (eo_ev (ev_int)) (oo 1))) (eo_ev (ev_int))))
    (vss_cons (vs_if (et_cmp (op_ord (.inl rfl) (room80 hr)) s_ord (oo 1) (eo_ev (cB call_len s_len c.n_len (ea1 (oo 0) (ea_nil)))) (nomark _)) (vss_one (vs_setX sc_law_box.nd (ex_v (cB call_abs s_abs c.n_abs (ea1 (eo_ev (cT call_int1 s_toInt c.n_int (ea1 (eo_ev (ev_ix ix_seq s_ix (oo 0) (oo 1) (by intro _ _; rfl))) (ea_nil)))) (ea_nil)))))) (vss_one (vs_if (et_cmp (op_ord (.inr (.inr (.inl rfl))) (room80 hr)) s_ord (eo_ev (cB call_len s_len c.n_len (ea1 (oo 0) (ea_nil)))) (eo_ev (ev_int)) (nomark _)) (vss_one (vs_setX sc_law_box.nd (ex_add (oo 2) (eo_ev (ev_bin op_mulB s_mul (eo_ev (ev_bin op_mod s_mod (eo_ev (cT call_int1 s_toInt c.n_int (ea1 (eo_ev (cB call_abs s_abs c.n_abs (ea1 (eo_ev (cT call_int1 s_toInt c.n_int (ea1 (eo_ev (ev_ix ix_seq s_ix (oo 0) (eo_ev (ev_bin op_mod s_mod (eo_ev (cT call_int1 s_toInt c.n_int (ea1 (oo 1) (ea_nil)))) (eo_ev (cB call_len s_len c.n_len (ea1 (oo 0) (ea_nil)))))) (by intro _ _; rfl))) (ea_nil)))) (ea_nil)))) (ea_nil)))) (eo_ev (ev_int)))) (eo_ev (ev_int))))))) (vss_nil))))
    (vss_cons (vs_setX sc_law_box.nd (ex_v (ev_if (et_cmp (op_ord (.inr (.inr (.inr rfl))) (room80 hr)) s_ord (oo 2) (eo_ev (ev_bin op_pow s_pow (eo_ev (ev_int)) (eo_ev (ev_int)))) (nomark _)) (ss 2) (ev_int))))
    (vss_one (vs_retX (ex_l (el_lst (ea1 (eo_ev (ss 3)) (ea1 (eo_ev (ev_x (ex_add (eo_ev (ev_bin op_mod s_mod (eo_ev (cT call_int1 s_toInt c.n_int (ea1 (eo_ev (ev_x (ex_add (eo_ev (ev_bin op_mulB s_mul (eo_ev (ev_bin op_mod s_mod (eo_ev (cT call_int1 s_toInt c.n_int (ea1 (oo 2) (ea_nil)))) (eo_ev (ev_int)))) (eo_ev (ev_int)))) (eo_ev (ev_bin op_mulB s_mul (eo_ev (ev_int)) (oo 1)))))) (ea_nil)))) (eo_ev (ev_int)))) (eo_ev (ev_int))))) (ea_nil))))))))))
theorem b_law_lowest (c : Facts K mg) : Binds K c.d_law_lowest ["above", "beneath"] [] := c.F_law_lowest.bindsN fun _ _ _ _ _ _ us hl => match us, hl with | [_, _], _ => rfl
theorem ok_law_lowest (c : Facts K mg) : FnOk P w K mg base (L2.CX P w) 1 c.a_law_lowest c.d_law_lowest ["above", "beneath"] (SpOf K mg F_law_lowest) :=
  fn_ok (N := n_law_lowest) c.F_law_lowest sc_law_lowest rfl (by decide) fun cdv A outer s H E hr tk => (show VSs _ _ _ B_law_lowest from
    vss_cons (par rfl sc_law_lowest.nd (by decide) (ea1 (eo_ev (cB call_abs s_abs c.n_abs (ea1 (oo 0) (ea_nil)))) (ea1 (eo_ev (ss 1)) (ea_nil))))
    (vss_cons (vs_while (passes_of rfl) (et_cmp (op_neD hr.units) s_ne (oo 3) (eo_ev (ev_int)) (nomark _)) (vss_one (par rfl sc_law_lowest.nd (by decide) (ea1 (eo_ev (ss 3)) (ea1 (eo_ev (ev_bin op_mod s_mod (oo 2) (oo 3))) (ea_nil))))))
    (vss_one (vs_retX (ex_v (ev_tup (ea1 (eo_ev (ev_bin op_fdivW s_div (oo 0) (oo 2))) (ea1 (eo_ev (ev_bin op_fdivW s_div (oo 1) (oo 2))) (ea_nil)))))))))
theorem b_law_like (c : Facts K mg) : Binds K c.d_law_like ["told", "due"] [] := c.F_law_like.bindsN fun _ _ _ _ _ _ us hl => match us, hl with | [_, _], _ => rfl
theorem ok_law_like (c : Facts K mg) : FnOk P w K mg base (L2.CX P w) 1 c.a_law_like c.d_law_like ["told", "due"] (SpOf K mg F_law_like) :=
  fn_ok (N := n_law_like) c.F_law_like sc_law_like rfl (by decide) fun cdv A outer s H E hr tk => (show VSs _ _ _ B_law_like from
    vss_cons (vs_setX sc_law_like.nd (ex_l (el_lst (ea1 (eo_ev (ev_tup (ea1 (eo_ev (ss 0)) (ea1 (eo_ev (ss 1)) (ea_nil))))) (ea_nil)))))
    (vss_cons (vfor (passes_of rfl) rfl (rng1 c.n_range (ea1 (eo_ev (ev_int)) (ea_nil))) (egn sc_law_like.nd) (vss_cons (vs_if (et_cmp (op_eqD hr.units) s_eq (oo 2) (eo_ev (ev_fz (el_lst (ea_nil)))) (nomark _)) (vss_one (vs_retX (ex_v (ev_bl)))) (vss_nil))
    (vss_cons (asg (ev_mut0 (pe_bm0 PySem.F.plainAttrs_list PySem.F.slot_list_pop PySem.F.type_list_pop mt_pop (pv 2)) m_pop) (egt rfl (egs1 (egn sc_law_like.nd) (egs1 (egn sc_law_like.nd) (egs_nil)))))
    (vss_one (vs_if (et_cmp op_isN s_is (oo 5) (eo_ev (ev_non)) (nomark _)) (vss_one (vs_if (et_cmp op_notN s_isnot (oo 4) (eo_ev (ev_non)) (nomark _)) (vss_one (vs_retX (ex_v (ev_bl)))) (vss_nil))) (vss_one (vs_if (eval_t (isi c.n_isinstance (oo 5) (ety (T := "bool") c.n_bool))) (vss_one (vs_if ((ew_or (et_not (eval_t (isi c.n_isinstance (oo 4) (ety (T := "bool") c.n_bool)))) (ew_or1 (et_cmp (op_neD hr.units) s_ne (oo 4) (oo 5) (nomark _)))).et) (vss_one (vs_retX (ex_v (ev_bl)))) (vss_nil))) (vss_one (vs_if (eval_t (isi c.n_isinstance (oo 5) (ety (T := "tuple") c.n_tuple))) (vss_cons (vs_if ((ew_or (et_not (eval_t (isi c.n_isinstance (oo 4) (ety (T := "tuple") c.n_tuple)))) (ew_or1 (et_cmp (op_neD hr.units) s_ne (eo_ev (cB call_len s_len c.n_len (ea1 (oo 4) (ea_nil)))) (eo_ev (cB call_len s_len c.n_len (ea1 (oo 5) (ea_nil)))) (nomark _)))).et) (vss_one (vs_retX (ex_v (ev_bl)))) (vss_nil))
    (vss_one (vexp (ev_mut lookAll_ok (pe_bm PySem.F.plainAttrs_list PySem.F.slot_list_extend PySem.F.type_list_extend mt_extendA (pv 2) (ea1 (eo_ev (ev_fz (lzip rfl c.n_list c.n_zip (ea1 (oo 4) (ea1 (oo 5) (ea_nil)))))) (ea_nil)).pa) m_extend)))) (vss_one (vs_if (eval_t (isi c.n_isinstance (oo 5) (ety (T := "str") c.n_str))) (vss_one (vs_if ((ew_or (et_not (eval_t (isi c.n_isinstance (oo 4) (ety (T := "str") c.n_str)))) (ew_or1 (et_cmp (op_neD hr.units) s_ne (oo 4) (oo 5) (nomark _)))).et) (vss_one (vs_retX (ex_v (ev_bl)))) (vss_nil))) (vss_one (vs_if ((ew_or (et_not (eval_t (isi c.n_isinstance (oo 4) (ety (T := "int") c.n_int)))) (ew_or (eval_t (isi c.n_isinstance (oo 4) (ety (T := "bool") c.n_bool))) (ew_or1 (et_cmp (op_neD hr.units) s_ne (oo 4) (oo 5) (nomark _))))).et) (vss_one (vs_retX (ex_v (ev_bl)))) (vss_nil))))))))))))))
    (vss_one (vs_retX (ex_v (ev_bl))))))
theorem b_law_take (c : Facts K mg) : Binds K c.d_law_take ["box", "many"] [] := c.F_law_take.bindsN fun _ _ _ _ _ _ us hl => match us, hl with | [_, _], _ => rfl
theorem ok_law_take (c : Facts K mg) : FnOk P w K mg base (L2.CX P w) 1 c.a_law_take c.d_law_take ["box", "many"] (SpOf K mg F_law_take) :=
  fn_ok (N := n_law_take) c.F_law_take sc_law_take rfl (by decide) fun cdv A outer s H E hr tk => (show VSs _ _ _ B_law_take from
    vss_cons (vs_if (et_cmp (op_ord (.inr (.inr (.inl rfl))) (room80 hr)) s_ord (eo_ev (ev_ix ix_seq s_ix (oo 0) (eo_ev (ev_int)) (by intro _ _; rfl))) (eo_ev (ev_int)) (nomark _)) (vss_cons (vs_setX sc_law_take.nd (ex_v (ev_bin op_mod s_mod (eo_ev (cT call_int1 s_toInt c.n_int (ea1 (eo_ev (ev_ix ix_seq s_ix (oo 0) (eo_ev (ev_int)) (by intro _ _; rfl))) (ea_nil)))) (oo 1))))
    (vss_cons (sto (ev_bin op_fdivW s_div (eo_ev (ev_ix ix_seq s_ix (oo 0) (eo_ev (ev_int)) (by intro _ _; rfl))) (oo 1)) (ev_int))
    (vss_one (vs_retX (mx 3))))) (vss_nil))
    (vss_cons (vs_setX sc_law_take.nd (ex_v (ev_bin op_mod s_mod (eo_ev (cT call_int1 s_toInt c.n_int (ea1 (eo_ev (ev_x (ex_add (eo_ev (ev_bin op_mulB s_mul (eo_ev (ev_ix ix_seq s_ix (oo 0) (eo_ev (ev_int)) (by intro _ _; rfl))) (eo_ev (ev_int)))) (eo_ev (ev_int))))) (ea_nil)))) (eo_ev (ev_int)))))
    (vss_cons (sto (ev_x (ex_add (eo_ev (ev_bin op_mod s_mod (eo_ev (cT call_int1 s_toInt c.n_int (ea1 (eo_ev (ev_x (ex_add (eo_ev (ev_bin op_mulB s_mul (oo 2) (eo_ev (ev_int)))) (eo_ev (ev_int))))) (ea_nil)))) (eo_ev (ev_int)))) (eo_ev (ev_int)))) (ev_int))
    (vss_one (vs_retX (ex_v (ev_bin op_mod s_mod (eo_ev (cT call_int1 s_toInt c.n_int (ea1 (eo_ev (ev_bin op_fdivW s_div (eo_ev (ev_x (ex_add (eo_ev (ev_bin op_mulB s_mul (oo 2) (eo_ev (ev_int)))) (eo_ev (ev_ix ix_seq s_ix (oo 0) (eo_ev (ev_int)) (by intro _ _; rfl)))))) (eo_ev (ev_int)))) (ea_nil)))) (oo 1))))))))
theorem b_is_less0 (c : Facts K mg) : Binds K c.d_is_less0 ["one", "two"] [] := c.F_is_less0.bindsN fun _ _ _ _ _ _ us hl => match us, hl with | [_, _], _ => rfl
theorem ok_is_less0 (c : Facts K mg) : FnOk P w K mg base (L2.CX P w) 1 c.a_is_less0 c.d_is_less0 ["one", "two"] (SpOf K mg F_is_less0) :=
  fn_ok (N := n_is_less0) c.F_is_less0 sc_is_less0 rfl (by decide) fun cdv A outer s H E hr tk => (show VSs _ _ _ B_is_less0 from
    vss_one (vs_retX (ex_v (ev_cmp (op_ord (.inl rfl) (room80 hr)) s_ord (eo_ev (ev_bin op_mulB s_mul (eo_ev (ev_ix ix_seq s_ix (oo 0) (eo_ev (ev_int)) (by intro _ _; rfl))) (eo_ev (ev_ix ix_seq s_ix (oo 1) (eo_ev (ev_int)) (by intro _ _; rfl))))) (eo_ev (ev_bin op_mulB s_mul (eo_ev (ev_ix ix_seq s_ix (oo 1) (eo_ev (ev_int)) (by intro _ _; rfl))) (eo_ev (ev_ix ix_seq s_ix (oo 0) (eo_ev (ev_int)) (by intro _ _; rfl))))) (nomark _)))))
theorem b_common_part0 (c : Facts K mg) : Binds K c.d_common_part0 ["one", "two"] [] := c.F_common_part0.bindsN fun _ _ _ _ _ _ us hl => match us, hl with | [_, _], _ => rfl
theorem ok_common_part0 (c : Facts K mg) : FnOk P w K mg base (L2.CX P w) 1 c.a_common_part0 c.d_common_part0 ["one", "two"] (SpOf K mg F_common_part0) :=
  fn_ok (N := n_common_part0) c.F_common_part0 sc_common_part0 rfl (by decide) fun cdv A outer s H E hr tk => (show VSs _ _ _ B_common_part0 from
    vss_cons (vs_while (passes_of rfl) (et_cmp (op_ord (.inr (.inr (.inl rfl))) (room80 hr)) s_ord (oo 1) (eo_ev (ev_int)) (nomark _)) (vss_one (par rfl sc_common_part0.nd (by decide) (ea1 (eo_ev (ss 1)) (ea1 (eo_ev (ev_bin op_mod s_mod (oo 0) (oo 1))) (ea_nil))))))
    (vss_one (vs_retX (mx 0))))
theorem b_fraction_of0 (c : Facts K mg) : Binds K c.d_fraction_of0 ["above", "beneath"] [] := c.F_fraction_of0.bindsN fun _ _ _ _ _ _ us hl => match us, hl with | [_, _], _ => rfl
theorem ok_fraction_of0 (c : Facts K mg) : FnOk P w K mg base (L2.CX P w) 2 c.a_fraction_of0 c.d_fraction_of0 ["above", "beneath"] (SpOf K mg F_fraction_of0) :=
  fn_ok (N := n_fraction_of0) c.F_fraction_of0 sc_fraction_of0 rfl (by decide) fun cdv A outer s H E hr tk => (show VSs _ _ _ B_fraction_of0 from
    vss_cons (vs_setX sc_fraction_of0.nd (ex_call (ok_common_part0 c) (hr.mono (by decide)) c.g_common_part0 c.F_common_part0.kp (b_common_part0 c) (passAt tk) (ea1 (eo_ev (cB call_abs s_abs c.n_abs (ea1 (oo 0) (ea_nil)))) (ea1 (eo_ev (ss 1)) (ea_nil)))))
    (vss_one (vs_retX (ex_v (ev_tup (ea1 (eo_ev (ev_bin op_fdivW s_div (oo 0) (oo 2))) (ea1 (eo_ev (ev_bin op_fdivW s_div (oo 1) (oo 2))) (ea_nil))))))))
theorem b_middle0 (c : Facts K mg) : Binds K c.d_middle0 ["one", "two"] [] := c.F_middle0.bindsN fun _ _ _ _ _ _ us hl => match us, hl with | [_, _], _ => rfl
theorem ok_middle0 (c : Facts K mg) : FnOk P w K mg base (L2.CX P w) 3 c.a_middle0 c.d_middle0 ["one", "two"] (SpOf K mg F_middle0) :=
  fn_ok (N := n_middle0) c.F_middle0 sc_middle0 rfl (by decide) fun cdv A outer s H E hr tk => (show VSs _ _ _ B_middle0 from
    vss_one (vs_retX (ex_call (ok_fraction_of0 c) (hr.mono (by decide)) c.g_fraction_of0 c.F_fraction_of0.kp (b_fraction_of0 c) (passAt tk) (ea1 (eo_ev (ev_x (ex_add (eo_ev (ev_bin op_mulB s_mul (eo_ev (ev_ix ix_seq s_ix (oo 0) (eo_ev (ev_int)) (by intro _ _; rfl))) (eo_ev (ev_ix ix_seq s_ix (oo 1) (eo_ev (ev_int)) (by intro _ _; rfl))))) (eo_ev (ev_bin op_mulB s_mul (eo_ev (ev_ix ix_seq s_ix (oo 1) (eo_ev (ev_int)) (by intro _ _; rfl))) (eo_ev (ev_ix ix_seq s_ix (oo 0) (eo_ev (ev_int)) (by intro _ _; rfl)))))))) (ea1 (eo_ev (ev_bin op_mulB s_mul (eo_ev (ev_bin op_mulB s_mul (eo_ev (ev_int)) (eo_ev (ev_ix ix_seq s_ix (oo 0) (eo_ev (ev_int)) (by intro _ _; rfl))))) (eo_ev (ev_ix ix_seq s_ix (oo 1) (eo_ev (ev_int)) (by intro _ _; rfl))))) (ea_nil))))))
theorem b_rounds_till0 (c : Facts K mg) : Binds K c.d_rounds_till0 ["gap", "small"] [] := c.F_rounds_till0.bindsN fun _ _ _ _ _ _ us hl => match us, hl with | [_, _], _ => rfl
theorem kb_rounds_till0_1_small (c : Facts K mg) : KBn K c.d_rounds_till0 ["gap", "small"] 1 ["small"] (fun us ws => gI [0, 1] (us ++ ws)) (fun vs zs => gI [0, 1] (vs ++ zs)) := kbn_of c.F_rounds_till0 1 _ _ fun _ _ _ _ _ _ us ws h1 h2 => match us, ws, h1, h2 with | [_], [_], _, _ => rfl
theorem ok_rounds_till0 (c : Facts K mg) : FnOk P w K mg base (L2.CX P w) 4 c.a_rounds_till0 c.d_rounds_till0 ["gap", "small"] (SpOf K mg F_rounds_till0) :=
  fn_ok (N := n_rounds_till0) c.F_rounds_till0 sc_rounds_till0 rfl (by decide) fun cdv A outer s H E hr tk => (show VSs _ _ _ B_rounds_till0 from
    vss_cons (vs_setX sc_rounds_till0.nd (ex_v (ev_int)))
    (vss_cons (vs_while (passes_of rfl) (eval_t (ev_x (ex_call (ok_is_less0 c) (hr.mono (by decide)) c.g_is_less0 c.F_is_less0.kp (b_is_less0 c) (passAt tk) (ea1 (eo_ev (ss 1)) (ea1 (eo_ev (ss 0)) (ea_nil)))))) (vss_cons (vs_setX sc_rounds_till0.nd (ex_call (ok_middle0 c) (hr.mono (by decide)) c.g_middle0 c.F_middle0.kp (b_middle0 c) (passAt tk) (ea1 (eo_ev (ev_tup (ea1 (eo_ev (ev_int)) (ea1 (eo_ev (ev_int)) (ea_nil))))) (ea1 (eo_ev (ss 0)) (ea_nil)))))
    (vss_one (augP sc_rounds_till0.nd (ev_int)))))
    (vss_one (vs_retX (mx 2)))))
theorem b_law_less_than (c : Facts K mg) : Binds K c.d_law_less_than ["one", "two"] [] := c.F_law_less_than.bindsN fun _ _ _ _ _ _ us hl => match us, hl with | [_, _], _ => rfl
theorem ok_law_less_than (c : Facts K mg) : FnOk P w K mg base (L2.CX P w) 1 c.a_law_less_than c.d_law_less_than ["one", "two"] (SpOf K mg F_law_less_than) :=
  fn_ok (N := n_law_less_than) c.F_law_less_than sc_law_less_than rfl (by decide) fun cdv A outer s H E hr tk => (show VSs _ _ _ B_law_less_than from
    vss_one (vs_retX (ex_v (ev_cmp (op_ord (.inl rfl) (room80 hr)) s_ord (eo_ev (ev_bin op_mulB s_mul (eo_ev (ev_ix ix_seq s_ix (oo 0) (eo_ev (ev_int)) (by intro _ _; rfl))) (eo_ev (ev_ix ix_seq s_ix (oo 1) (eo_ev (ev_int)) (by intro _ _; rfl))))) (eo_ev (ev_bin op_mulB s_mul (eo_ev (ev_ix ix_seq s_ix (oo 1) (eo_ev (ev_int)) (by intro _ _; rfl))) (eo_ev (ev_ix ix_seq s_ix (oo 0) (eo_ev (ev_int)) (by intro _ _; rfl))))) (nomark _)))))
theorem b_law0 (c : Facts K mg) : Binds K c.d_law0 ["script"] [] := c.F_law0.bindsN fun _ _ _ _ _ _ us hl => match us, hl with | [_], _ => rfl
theorem ok_law0 (c : Facts K mg) : FnOk P w K mg base (L2.CX P w) 5 c.a_law0 c.d_law0 ["script"] (SpOf K mg F_law0) :=
  fn_ok (N := n_law0) c.F_law0 sc_law0 rfl (by decide) fun cdv A outer s H E hr tk => (show VSs _ _ _ B_law0 from
    vss_cons (vs_if ((ew_or (et_not (eval_t (ev_x (ex_call (ok_law_like c) (hr.mono (by decide)) c.g_law_like c.F_law_like.kp (b_law_like c) (passAt tk) (ea1 (eo_ev (ev_x (ex_call (ok_rounds_till0 c) (hr.mono (by decide)) c.g_rounds_till0 c.F_rounds_till0.kp (b_rounds_till0 c) (passAt tk) (ea1 (eo_ev (ev_tup (ea1 (eo_ev (ev_int)) (ea1 (eo_ev (ev_int)) (ea_nil))))) (ea1 (eo_ev (ev_tup (ea1 (eo_ev (ev_int)) (ea1 (eo_ev (ev_int)) (ea_nil))))) (ea_nil)))))) (ea1 (eo_ev (ev_int)) (ea_nil))))))) (ew_or1 (et_not (eval_t (ev_x (ex_call (ok_law_like c) (hr.mono (by decide)) c.g_law_like c.F_law_like.kp (b_law_like c) (passAt tk) (ea1 (eo_ev (ev_x (ex_call (ok_rounds_till0 c) (hr.mono (by decide)) c.g_rounds_till0 c.F_rounds_till0.kp (b_rounds_till0 c) (passAt tk) (ea1 (eo_ev (ev_tup (ea1 (eo_ev (ev_int)) (ea1 (eo_ev (ev_int)) (ea_nil))))) (ea1 (eo_ev (ev_tup (ea1 (eo_ev (ev_int)) (ea1 (eo_ev (ev_int)) (ea_nil))))) (ea_nil)))))) (ea1 (eo_ev (ev_int)) (ea_nil))))))))).et) (vss_one (vs_retX (ex_v (ev_bl)))) (vss_nil))
    (vss_cons (vfor (passes_of rfl) rfl (rng1 c.n_range (ea1 (eo_ev (cB (call_max2 rfl) s_max2 c.n_max (ea1 (eo_ev (ev_int)) (ea1 (eo_ev (cB (call_min2 rfl) s_min2 c.n_min (ea1 (eo_ev (cB call_len s_len c.n_len (ea1 (oo 0) (ea_nil)))) (ea1 (eo_ev (ev_int)) (ea_nil))))) (ea_nil))))) (ea_nil))) (egn sc_law0.nd) (vss_cons (vs_setX sc_law0.nd (ex_call (ok_law_box c) (hr.mono (by decide)) c.g_law_box c.F_law_box.kp (b_law_box c) (passAt tk) (ea1 (eo_ev (ss 0)) (ea1 (eo_ev (ss 1)) (ea_nil)))))
    (vss_cons (vs_setX sc_law0.nd (ex_call (ok_law_lowest c) (hr.mono (by decide)) c.g_law_lowest c.F_law_lowest.kp (b_law_lowest c) (passAt tk) (ea1 (eo_ev (ev_x (ex_add (eo_ev (ev_int)) (eo_ev (ev_x (ex_call (ok_law_take c) (hr.mono (by decide)) c.g_law_take c.F_law_take.kp (b_law_take c) (passAt tk) (ea1 (oo 2) (ea1 (eo_ev (ev_int)) (ea_nil))))))))) (ea1 (eo_ev (ev_x (ex_add (eo_ev (ev_int)) (eo_ev (ev_x (ex_call (ok_law_take c) (hr.mono (by decide)) c.g_law_take c.F_law_take.kp (b_law_take c) (passAt tk) (ea1 (oo 2) (ea1 (eo_ev (ev_int)) (ea_nil))))))))) (ea_nil)))))
    (vss_cons (vs_setX sc_law0.nd (ex_v (ev_bin op_shl s_shl (eo_ev (ev_int)) (eo_ev (ev_x (ex_call (ok_law_take c) (hr.mono (by decide)) c.g_law_take c.F_law_take.kp (b_law_take c) (passAt tk) (ea1 (oo 2) (ea1 (eo_ev (ev_int)) (ea_nil)))))))))
    (vss_one (vfor (passes_of rfl) rfl (ei_seq (eo_ev (ev_fz (el_lst (ea1 (eo_ev (ev_x (ex_call (ok_law_lowest c) (hr.mono (by decide)) c.g_law_lowest c.F_law_lowest.kp (b_law_lowest c) (passAt tk) (ea1 (eo_ev (ev_bin op_mulB s_mul (eo_ev (ev_ix ix_seq s_ix (oo 3) (eo_ev (ev_int)) (by intro _ _; rfl))) (oo 4))) (ea1 (eo_ev (ev_ix ix_seq s_ix (oo 3) (eo_ev (ev_int)) (by intro _ _; rfl))) (ea_nil)))))) (ea1 (eo_ev (ev_x (ex_call (ok_law_lowest c) (hr.mono (by decide)) c.g_law_lowest c.F_law_lowest.kp (b_law_lowest c) (passAt tk) (ea1 (eo_ev (ev_x (ex_add (eo_ev (ev_bin op_mulB s_mul (eo_ev (ev_bin op_mulB s_mul (eo_ev (ev_ix ix_seq s_ix (oo 3) (eo_ev (ev_int)) (by intro _ _; rfl))) (oo 4))) (eo_ev (ev_int)))) (eo_ev (ev_int))))) (ea1 (eo_ev (ev_bin op_mulB s_mul (eo_ev (ev_ix ix_seq s_ix (oo 3) (eo_ev (ev_int)) (by intro _ _; rfl))) (eo_ev (ev_int)))) (ea_nil)))))) (ea1 (eo_ev (ev_x (ex_call (ok_law_lowest c) (hr.mono (by decide)) c.g_law_lowest c.F_law_lowest.kp (b_law_lowest c) (passAt tk) (ea1 (eo_ev (ev_x (ex_call (ok_law_take c) (hr.mono (by decide)) c.g_law_take c.F_law_take.kp (b_law_take c) (passAt tk) (ea1 (oo 2) (ea1 (eo_ev (ev_bin op_pow s_pow (eo_ev (ev_int)) (eo_ev (ev_int)))) (ea_nil)))))) (ea1 (eo_ev (ev_x (ex_add (eo_ev (ev_int)) (eo_ev (ev_x (ex_call (ok_law_take c) (hr.mono (by decide)) c.g_law_take c.F_law_take.kp (b_law_take c) (passAt tk) (ea1 (oo 2) (ea1 (eo_ev (ev_int)) (ea_nil))))))))) (ea_nil)))))) (ea_nil)))))))) (egn sc_law0.nd) (vss_cons (vs_setX sc_law0.nd (ex_callN (ok_rounds_till0 c) (hr.mono (by decide)) c.g_rounds_till0 c.F_rounds_till0.kp (kb_rounds_till0_1_small c) (passAt tk) (ea1 (eo_ev (ss 5)) (ea_nil)) (ek_cons (eo_ev (ss 3)) (ek_nil))))
    (vss_cons (vs_if ((ew_or (et_not (eval_t (isi c.n_isinstance (oo 6) (ety (T := "int") c.n_int)))) (ew_or (eval_t (isi c.n_isinstance (oo 6) (ety (T := "bool") c.n_bool))) (ew_or (et_cmp (op_ord (.inl rfl) (room80 hr)) s_ord (oo 6) (eo_ev (ev_int)) (nomark _)) (ew_or1 (et_cmp (op_ord (.inr (.inr (.inl rfl))) (room80 hr)) s_ord (oo 6) (eo_ev (ev_int)) (nomark _)))))).et) (vss_one (vs_retX (ex_v (ev_bl)))) (vss_nil))
    (vss_cons (vs_if (eval_t (ev_x (ex_call (ok_law_less_than c) (hr.mono (by decide)) c.g_law_less_than c.F_law_less_than.kp (b_law_less_than c) (passAt tk) (ea1 (eo_ev (ev_tup (ea1 (eo_ev (ev_bin op_mulB s_mul (eo_ev (ev_ix ix_seq s_ix (oo 3) (eo_ev (ev_int)) (by intro _ _; rfl))) (eo_ev (ev_bin op_shl s_shl (eo_ev (ev_int)) (oo 6))))) (ea1 (eo_ev (ev_ix ix_seq s_ix (oo 3) (eo_ev (ev_int)) (by intro _ _; rfl))) (ea_nil))))) (ea1 (eo_ev (ss 5)) (ea_nil)))))) (vss_one (vs_retX (ex_v (ev_bl)))) (vss_nil))
    (vss_one (vs_if ((ew_and (et_cmp (op_ord (.inr (.inr (.inl rfl))) (room80 hr)) s_ord (oo 6) (eo_ev (ev_int)) (nomark _)) (ew_and1 (et_not (eval_t (ev_x (ex_call (ok_law_less_than c) (hr.mono (by decide)) c.g_law_less_than c.F_law_less_than.kp (b_law_less_than c) (passAt tk) (ea1 (eo_ev (ev_tup (ea1 (eo_ev (ev_bin op_mulB s_mul (eo_ev (ev_ix ix_seq s_ix (oo 3) (eo_ev (ev_int)) (by intro _ _; rfl))) (eo_ev (ev_bin op_shl s_shl (eo_ev (ev_int)) (eo_ev (ev_bin op_sub s_sub (oo 6) (eo_ev (ev_int)))))))) (ea1 (eo_ev (ev_ix ix_seq s_ix (oo 3) (eo_ev (ev_int)) (by intro _ _; rfl))) (ea_nil))))) (ea1 (eo_ev (ss 5)) (ea_nil))))))))).et) (vss_one (vs_retX (ex_v (ev_bl)))) (vss_nil))))))))))))
    (vss_one (vs_retX (ex_v (ev_bl))))))
end
def e_law_box : He.DefD := ⟨("_law_box", none), "_law_box", "_law_box", defArgs s_law_box, defBody s_law_box, defScope s_law_box, [], []⟩
def e_law_lowest : He.DefD := ⟨("_law_lowest", none), "_law_lowest", "_law_lowest", defArgs s_law_lowest, defBody s_law_lowest, defScope s_law_lowest, [], []⟩
def e_law_like : He.DefD := ⟨("_law_like", none), "_law_like", "_law_like", defArgs s_law_like, defBody s_law_like, defScope s_law_like, [], []⟩
def e_law_take : He.DefD := ⟨("_law_take", none), "_law_take", "_law_take", defArgs s_law_take, defBody s_law_take, defScope s_law_take, [], []⟩
def e_is_less0 : He.DefD := ⟨("is_less", none), "is_less", "is_less", defArgs s_is_less0, defBody s_is_less0, defScope s_is_less0, [], []⟩
def e_common_part0 : He.DefD := ⟨("common_part", none), "common_part", "common_part", defArgs s_common_part0, defBody s_common_part0, defScope s_common_part0, [], []⟩
def e_fraction_of0 : He.DefD := ⟨("fraction_of", none), "fraction_of", "fraction_of", defArgs s_fraction_of0, defBody s_fraction_of0, defScope s_fraction_of0, [], []⟩
def e_middle0 : He.DefD := ⟨("middle", none), "middle", "middle", defArgs s_middle0, defBody s_middle0, defScope s_middle0, [], []⟩
def e_rounds_till0 : He.DefD := ⟨("rounds_till", none), "rounds_till", "rounds_till", defArgs s_rounds_till0, defBody s_rounds_till0, defScope s_rounds_till0, [], []⟩
def e_law_less_than : He.DefD := ⟨("_law_less_than", none), "_law_less_than", "_law_less_than", defArgs s_law_less_than, defBody s_law_less_than, defScope s_law_less_than, [], []⟩
def e_law0 : He.DefD := ⟨("law", none), "law", "law", defArgs s_law0, defBody s_law0, defScope s_law0, [], []⟩
def fn : List He.DefD := [e_law_box, e_law_lowest, e_law_like, e_law_take, e_is_less0, e_common_part0, e_fraction_of0, e_middle0, e_rounds_till0, e_law_less_than, e_law0]
def fa : List He.Fa := [.glo "_law_box", .glo "_law_lowest", .glo "_law_like", .glo "_law_take", .glo "is_less", .glo "common_part", .glo "fraction_of", .glo "middle", .glo "rounds_till", .glo "_law_less_than", .glo "law", .free "len", .free "abs", .free "int", .free "range", .free "isinstance", .free "bool", .free "tuple", .free "str", .free "list", .free "zip", .free "max", .free "min"]
abbrev R : PySem.W.OpenRow := PySem.W.OpenLaw.row PySem.Challenge.rw_nolieholds_k82_how_many_rounds
abbrev hk : PySem.W.Hook := He.hookD 4 fa fn
def ob (s : PySem.W.SharedT) : He.AlD := He.obsDG 4 fa fn (HandSHeadRun.getT s)
theorem ob_eq (s : PySem.W.SharedT) : ob s = hk.obs s.abs := He.obsDG_eq (HandSHeadRun.getT_eq s)
def loose : List PySem.Str := ["common_part", "fraction_of", "is_less", "middle", "rounds_till", "_law_take", "_law_like", "_law_lowest", "_law_less_than", "_law_box"]
set_option maxHeartbeats 0 in
theorem run (w : World) : HandSHeadRun.RunEq R (PySem.W.view R.prog [13]) hk ob 4000 loose w := by
  intro os
  kernel_rfl
noncomputable def facts {K : PySem.W.Frag} {h : Heap} {mg : Str → Option Value} (X : K.In h) (G : h.Ns mainGlobals mg) (c : He.SaysD fa fn K) : Facts K mg :=
  {
    a_law_box := _, d_law_box := (c.def_ 0 (d := e_law_box) rfl).choose, F_law_box := (c.def_ 0 (d := e_law_box) rfl).choose_spec, g_law_box := He.glo_ok X G (c.fact 0 (f := .glo "_law_box") rfl),
    a_law_lowest := _, d_law_lowest := (c.def_ 1 (d := e_law_lowest) rfl).choose, F_law_lowest := (c.def_ 1 (d := e_law_lowest) rfl).choose_spec, g_law_lowest := He.glo_ok X G (c.fact 1 (f := .glo "_law_lowest") rfl),
    a_law_like := _, d_law_like := (c.def_ 2 (d := e_law_like) rfl).choose, F_law_like := (c.def_ 2 (d := e_law_like) rfl).choose_spec, g_law_like := He.glo_ok X G (c.fact 2 (f := .glo "_law_like") rfl),
    a_law_take := _, d_law_take := (c.def_ 3 (d := e_law_take) rfl).choose, F_law_take := (c.def_ 3 (d := e_law_take) rfl).choose_spec, g_law_take := He.glo_ok X G (c.fact 3 (f := .glo "_law_take") rfl),
    a_is_less0 := _, d_is_less0 := (c.def_ 4 (d := e_is_less0) rfl).choose, F_is_less0 := (c.def_ 4 (d := e_is_less0) rfl).choose_spec, g_is_less0 := He.glo_ok X G (c.fact 4 (f := .glo "is_less") rfl),
    a_common_part0 := _, d_common_part0 := (c.def_ 5 (d := e_common_part0) rfl).choose, F_common_part0 := (c.def_ 5 (d := e_common_part0) rfl).choose_spec, g_common_part0 := He.glo_ok X G (c.fact 5 (f := .glo "common_part") rfl),
    a_fraction_of0 := _, d_fraction_of0 := (c.def_ 6 (d := e_fraction_of0) rfl).choose, F_fraction_of0 := (c.def_ 6 (d := e_fraction_of0) rfl).choose_spec, g_fraction_of0 := He.glo_ok X G (c.fact 6 (f := .glo "fraction_of") rfl),
    a_middle0 := _, d_middle0 := (c.def_ 7 (d := e_middle0) rfl).choose, F_middle0 := (c.def_ 7 (d := e_middle0) rfl).choose_spec, g_middle0 := He.glo_ok X G (c.fact 7 (f := .glo "middle") rfl),
    a_rounds_till0 := _, d_rounds_till0 := (c.def_ 8 (d := e_rounds_till0) rfl).choose, F_rounds_till0 := (c.def_ 8 (d := e_rounds_till0) rfl).choose_spec, g_rounds_till0 := He.glo_ok X G (c.fact 8 (f := .glo "rounds_till") rfl),
    a_law_less_than := _, d_law_less_than := (c.def_ 9 (d := e_law_less_than) rfl).choose, F_law_less_than := (c.def_ 9 (d := e_law_less_than) rfl).choose_spec, g_law_less_than := He.glo_ok X G (c.fact 9 (f := .glo "_law_less_than") rfl),
    a_law0 := _, d_law0 := (c.def_ 10 (d := e_law0) rfl).choose, F_law0 := (c.def_ 10 (d := e_law0) rfl).choose_spec, g_law0 := He.glo_ok X G (c.fact 10 (f := .glo "law") rfl),
    n_len := He.free_ok X G (c.fact 11 (f := .free "len") rfl),
    n_abs := He.free_ok X G (c.fact 12 (f := .free "abs") rfl),
    n_int := He.free_ok X G (c.fact 13 (f := .free "int") rfl),
    n_range := He.free_ok X G (c.fact 14 (f := .free "range") rfl),
    n_isinstance := He.free_ok X G (c.fact 15 (f := .free "isinstance") rfl),
    n_bool := He.free_ok X G (c.fact 16 (f := .free "bool") rfl),
    n_tuple := He.free_ok X G (c.fact 17 (f := .free "tuple") rfl),
    n_str := He.free_ok X G (c.fact 18 (f := .free "str") rfl),
    n_list := He.free_ok X G (c.fact 19 (f := .free "list") rfl),
    n_zip := He.free_ok X G (c.fact 20 (f := .free "zip") rfl),
    n_max := He.free_ok X G (c.fact 21 (f := .free "max") rfl),
    n_min := He.free_ok X G (c.fact 22 (f := .free "min") rfl) }
end VP

set_option Elab.async false
set_option linter.all false
set_option autoImplicit false
set_option maxRecDepth 100000
set_option maxHeartbeats 4000000
namespace VP
open PySem L2 VL
theorem is_less_ok {a b c d : Int} (ha : a.natAbs.log2 + d.natAbs.log2 < 1000000) (hb : c.natAbs.log2 + b.natAbs.log2 < 1000000) : Gv F_is_less0 [.tup [.int a, .int b], .tup [.int c, .int d]] (.v (.bl (decide (a * d < c * b)))) := by
  unfold Gv F_is_less0 B_is_less0
  simp [sMul_int (.inr (.inr ha)), sMul_int (.inr (.inr hb))]
theorem less_than_ok {a b c d : Int} (ha : a.natAbs.log2 + d.natAbs.log2 < 1000000) (hb : c.natAbs.log2 + b.natAbs.log2 < 1000000) : Gv F_law_less_than [.tup [.int a, .int b], .tup [.int c, .int d]] (.v (.bl (decide (a * d < c * b)))) := by
  unfold Gv F_law_less_than B_law_less_than
  simp [sMul_int (.inr (.inr ha)), sMul_int (.inr (.inr hb))]
theorem take_ok (a b m : Int) (hm : 0 < m) (hl : m.natAbs.log2 < 9000) : ∃ r a' b', 0 ≤ r ∧ r < m ∧ ∃ outs, F_law_take [.io (.lst [.int a, .int b]), .val (.int m)] = .ok (.v (.int r)) (.io (.lst [.int a', .int b']) :: outs) ∧ 1 ≤ outs.length := by
  unfold F_law_take B_law_take
  by_cases h : 0 < a
  · refine ⟨a % m, a / m, b, Int.emod_nonneg _ (by omega), Int.emod_lt_of_pos _ hm, ?_⟩
    simp [h, sMod_int hm, sDiv_int hm hl, ixN]
  · refine ⟨(((b * 39373 + 419) % 2147483647 * 2147483629 + (((b * 39373 + 419) % 2147483647 * 40692 + 43) % 2147483399 + 1)) / 8209) % m, a, (((b * 39373 + 419) % 2147483647 * 40692 + 43) % 2147483399 + 1), Int.emod_nonneg _ (by omega), Int.emod_lt_of_pos _ hm, ?_⟩
    simp [h, sMod_int, hm, sDiv_int, sMul_right, ixN, show (8209 : Nat).log2 < 9000 from by decide]
/-- a draw, as the callers meet it -/
theorem take_at (a b m : Int) (hm : 0 < m) (hl : m.natAbs.log2 < 9000) (j : Nat) : ∃ r a' b', 0 ≤ r ∧ r < m ∧ ∀ S, slLook S[j]? = some (.lst [.int a, .int b]) → kCallX F_law_take [.s j, .v (.int m)] S = .ok (.v (.int r)) (slPut S j (.lst [.int a', .int b']) S[j]?) := by
  obtain ⟨r, a', b', h1, h2, outs, h3, h4⟩ := take_ok a b m hm hl
  exact ⟨r, a', b', h1, h2, fun S hS => call_io (xs := [.int m]) hS h3 h4⟩
theorem box_ok (ns : List Int) (k : Nat) : ∃ a b : Int, Gv F_law_box [.scr ns, .int k] (.l (.lst [.int a, .int b])) := by
  unfold Gv F_law_box B_law_box
  by_cases h : k < ns.length
  · obtain ⟨n, hn⟩ := atI_in (l := ns) (i := (k : Int)) (by omega) (by omega)
    by_cases h2 : 1000000000000000000 ≤ (if n < 0 then -n else n)
    · simp -implicitDefEqProofs [h, hn, h2, sMul_left, sMul_right, sMod_int, sPow_int]; exact ⟨_, _, _, ⟨⟨rfl, rfl⟩, rfl⟩, by simp⟩
    · simp -implicitDefEqProofs [h, hn, h2, sMul_left, sMul_right, sMod_int, sPow_int]; exact ⟨_, _, _, ⟨⟨rfl, rfl⟩, rfl⟩, by simp⟩
  · by_cases h0 : 0 < ns.length
    · have h0' : (0 : Int) < ns.length := by omega
      obtain ⟨n, hn⟩ := atI_in (l := ns) (i := (k : Int) % (ns.length : Int)) (Int.emod_nonneg _ (by omega)) (Int.emod_lt_of_pos _ h0')
      by_cases h2 : 1000000000000000000 ≤ 5849 * (k : Int) + 7517 + (if n < 0 then -n else n) % 2147483563 * 56993
      · simp -implicitDefEqProofs [h, h0, h0', hn, h2, sMul_left, sMul_right, sMod_int, sPow_int]; exact ⟨_, _, _, ⟨⟨rfl, rfl⟩, rfl⟩, by simp⟩
      · simp -implicitDefEqProofs [h, h0, h0', hn, h2, sMul_left, sMul_right, sMod_int, sPow_int]; exact ⟨_, _, _, ⟨⟨rfl, rfl⟩, rfl⟩, by simp⟩
    · by_cases h2 : 1000000000000000000 ≤ 5849 * (k : Int) + 7517
      · simp -implicitDefEqProofs [h, h0, h2, sMul_left, sMul_right, sMod_int, sPow_int]; exact ⟨_, _, _, ⟨⟨rfl, rfl⟩, rfl⟩, by simp⟩
      · simp -implicitDefEqProofs [h, h0, h2, sMul_left, sMul_right, sMod_int, sPow_int]; exact ⟨_, _, _, ⟨⟨rfl, rfl⟩, rfl⟩, by simp⟩
/-! ### the common part -/
theorem gcd_step {a b : Int} (ha : 0 ≤ a) (hb : 0 ≤ b) : Int.gcd b (a % b) = Int.gcd a b := by
  obtain ⟨n, rfl⟩ := Int.eq_ofNat_of_zero_le ha
  obtain ⟨m, rfl⟩ := Int.eq_ofNat_of_zero_le hb
  have e : ((n : Int) % (m : Int)) = ((n % m : Nat) : Int) := by omega
  rw [e]
  show Nat.gcd m (n % m) = Nat.gcd n m
  rw [Nat.gcd_comm m, ← Nat.gcd_rec, Nat.gcd_comm]
theorem part_loop : ∀ (n : Nat) (a b : Int), 0 ≤ a → 0 ≤ b → b.toNat ≤ n → whileF C1_common_part0 L1_common_part0 [.val (.int a), .val (.int b)] = .nx [.val (.int (Int.gcd a b : Int)), .val (.int 0)] := by
  intro n
  induction n with
  | zero =>
    intro a b ha hb hn
    have e : b = 0 := by omega
    subst e
    rw [while_end (S1 := [.val (.int a), .val (.int 0)]) (by simp [C1_common_part0])]
    have : ((Int.gcd a 0 : Nat) : Int) = a := by rw [Int.gcd_zero]; omega
    rw [this]
  | succ n ih =>
    intro a b ha hb hn
    by_cases h : 0 < b
    · rw [while_step (S1 := [.val (.int a), .val (.int b)]) (S2 := [.val (.int b), .val (.int (a % b))]) (by simp [C1_common_part0, h]) (by simp [L1_common_part0, sMod_int h])]
      have l := Int.emod_lt_of_pos a h
      have l0 := Int.emod_nonneg a (show b ≠ 0 by omega)
      rw [ih b (a % b) hb l0 (by omega), gcd_step ha hb]
    · have e : b = 0 := by omega
      subst e
      rw [while_end (S1 := [.val (.int a), .val (.int 0)]) (by simp [C1_common_part0])]
      have : ((Int.gcd a 0 : Nat) : Int) = a := by rw [Int.gcd_zero]; omega
      rw [this]
theorem part_ok {a b : Int} (ha : 0 ≤ a) (hb : 0 ≤ b) : Gv F_common_part0 [.int a, .int b] (.v (.int (Int.gcd a b : Int))) := by
  unfold Gv F_common_part0 B_common_part0
  simp [part_loop b.toNat a b ha hb (Nat.le_refl _)]
theorem low_loop : ∀ (n : Nat) (a b : Int) (x y : Sl), 0 ≤ a → 0 ≤ b → b.toNat ≤ n → whileF C1_law_lowest L1_law_lowest [x, y, .val (.int a), .val (.int b)] = .nx [x, y, .val (.int (Int.gcd a b : Int)), .val (.int 0)] := by
  intro n
  induction n with
  | zero =>
    intro a b x y ha hb hn
    have e : b = 0 := by omega
    subst e
    rw [while_end (S1 := [x, y, .val (.int a), .val (.int 0)]) (by simp [C1_law_lowest])]
    have : ((Int.gcd a 0 : Nat) : Int) = a := by rw [Int.gcd_zero]; omega
    rw [this]
  | succ n ih =>
    intro a b x y ha hb hn
    by_cases h : 0 < b
    · rw [while_step (S1 := [x, y, .val (.int a), .val (.int b)]) (S2 := [x, y, .val (.int b), .val (.int (a % b))]) (by simp [C1_law_lowest, show ¬ b = 0 by omega]) (by simp [L1_law_lowest, sMod_int h])]
      have l := Int.emod_lt_of_pos a h
      have l0 := Int.emod_nonneg a (show b ≠ 0 by omega)
      rw [ih b (a % b) x y hb l0 (by omega), gcd_step ha hb]
    · have e : b = 0 := by omega
      subst e
      rw [while_end (S1 := [x, y, .val (.int a), .val (.int 0)]) (by simp [C1_law_lowest])]
      have : ((Int.gcd a 0 : Nat) : Int) = a := by rw [Int.gcd_zero]; omega
      rw [this]
/-- a fraction made lower -/
structure Low (a b p q : Int) : Prop where
  p0 : 0 ≤ p
  q0 : 0 < q
  eq : p * b = a * q
  pa : p ≤ a
  qb : q ≤ b
  pp : 0 < a → 0 < p
theorem low_of {a b : Int} (ha : 0 ≤ a) (hb : 0 < b) (hB : b < 2 ^ 300) : ∃ g : Int, g = (Int.gcd a b : Int) ∧ 0 < g ∧ g.natAbs.log2 < 9000 ∧ Low a b (a / g) (b / g) := by
  have hg : 0 < Int.gcd a b := Int.gcd_pos_of_ne_zero_right _ (by omega)
  have d1 : (Int.gcd a b : Int) ∣ a := Int.gcd_dvd_left ..
  have d2 : (Int.gcd a b : Int) ∣ b := Int.gcd_dvd_right ..
  refine ⟨_, rfl, by omega, ?_, ?_⟩
  · have hle : (Int.gcd a b : Int) ≤ b := Int.le_of_dvd hb d2
    have : (Int.gcd a b : Int).natAbs < 2 ^ 300 := by omega
    have := log2_le this
    omega
  · generalize hG : (Int.gcd a b : Int) = g at *
    have g0 : 0 < g := by omega
    obtain ⟨p, rfl⟩ := d1
    obtain ⟨q, rfl⟩ := d2
    rw [Int.mul_ediv_cancel_left _ (by omega), Int.mul_ediv_cancel_left _ (by omega)]
    have hp : 0 ≤ p := by
      refine Classical.byContradiction fun h => ?_
      have := Int.mul_neg_of_pos_of_neg g0 (show p < 0 by omega)
      omega
    have hq : 0 < q := by
      refine Classical.byContradiction fun h => ?_
      have := Int.mul_nonpos_of_nonneg_of_nonpos (show 0 ≤ g by omega) (show q ≤ 0 by omega)
      omega
    refine ⟨hp, hq, by rw [Int.mul_left_comm, Int.mul_assoc], ?_, ?_, fun h => ?_⟩
    · have := Int.mul_le_mul_of_nonneg_right (show 1 ≤ g by omega) hp
      omega
    · have := Int.mul_le_mul_of_nonneg_right (show 1 ≤ g by omega) (show 0 ≤ q by omega)
      omega
    · refine Classical.byContradiction fun h' => ?_
      have : p = 0 := by omega
      rw [this] at h
      omega
theorem lowest_ok {a b : Int} (ha : 0 ≤ a) (hb : 0 < b) (hB : b < 2 ^ 300) : ∃ p q, Low a b p q ∧ Gv F_law_lowest [.int a, .int b] (.v (.tup [.int p, .int q])) := by
  obtain ⟨g, hg, g0, gl, L⟩ := low_of ha hb hB
  refine ⟨_, _, L, ?_⟩
  unfold Gv F_law_lowest B_law_lowest
  simp [show ¬ a < 0 by omega, low_loop b.toNat a b _ _ ha (by omega) (Nat.le_refl _), ← hg, sDiv_int g0 gl]
theorem fraction_ok {a b : Int} (ha : 0 ≤ a) (hb : 0 < b) (hB : b < 2 ^ 300) : ∃ p q, Low a b p q ∧ Gv F_fraction_of0 [.int a, .int b] (.v (.tup [.int p, .int q])) := by
  obtain ⟨g, hg, g0, gl, L⟩ := low_of ha hb hB
  refine ⟨_, _, L, ?_⟩
  unfold Gv F_fraction_of0 B_fraction_of0
  simp [show ¬ a < 0 by omega, call2 (part_ok ha (show 0 ≤ b by omega)), ← hg, sDiv_int g0 gl]
/-- half of a fraction -/
theorem middle_ok {p q : Int} (hp : 0 ≤ p) (hq : 0 < q) (hP : p < 2 ^ 290) (hQ : q < 2 ^ 290) : ∃ p' q', Low p (2 * q) p' q' ∧ Gv F_middle0 [.tup [.int 0, .int 1], .tup [.int p, .int q]] (.v (.tup [.int p', .int q'])) := by
  obtain ⟨p', q', L, h⟩ := fraction_ok (a := p) (b := 2 * q) hp (by omega) (by omega)
  refine ⟨p', q', L, ?_⟩
  unfold Gv F_middle0 B_middle0
  simp [sMul_left, sMul_right, call2 h]

/-! ### the rounds -/
structure Frc (p q : Int) : Prop where
  p0 : 0 ≤ p
  q0 : 0 < q
  pB : p < 2 ^ 64
  qB : q < 2 ^ 64
theorem less_iff {a b p q p0 q0 : Int} {k : Nat} (hq : 0 < q) (hq0 : 0 < q0) (e : p * (q0 * 2 ^ k) = p0 * q) : a * q < p * b ↔ a * q0 * 2 ^ k < p0 * b := by
  have h2 : (0 : Int) < 2 ^ k := Int.pow_pos (by decide)
  have hD : 0 < q0 * 2 ^ k := Int.mul_pos hq0 h2
  have e1 : a * q * (q0 * 2 ^ k) = (a * q0 * 2 ^ k) * q := by
    rw [Int.mul_assoc a q, Int.mul_comm q, ← Int.mul_assoc, ← Int.mul_assoc a]
  have e2 : p * b * (q0 * 2 ^ k) = p0 * b * q := by
    rw [Int.mul_assoc p b, Int.mul_comm b, ← Int.mul_assoc, e, Int.mul_assoc, Int.mul_comm q b, ← Int.mul_assoc]
  constructor
  · intro h
    have := Int.mul_lt_mul_of_pos_right h hD
    rw [e1, e2] at this
    exact Int.lt_of_mul_lt_mul_right this (Int.le_of_lt hq)
  · intro h
    have := Int.mul_lt_mul_of_pos_right h hq
    rw [← e1, ← e2] at this
    exact Int.lt_of_mul_lt_mul_right this (Int.le_of_lt hD)
theorem pow_mono {k m : Nat} (h : k ≤ m) : (2 : Int) ^ k ≤ 2 ^ m := by
  have := Nat.pow_le_pow_right (show 0 < 2 by decide) h
  exact_mod_cast this
/-- a power below a product of small ones -/
theorem k_small {a b p0 q0 : Int} {k : Nat} (ha : 0 < a) (hq0 : 0 < q0) (hb : 0 < b) (hp : 0 ≤ p0) (hbB : b < 2 ^ 64) (hpB : p0 < 2 ^ 64) (h : a * q0 * 2 ^ k < p0 * b) : k < 128 := by
  refine Classical.byContradiction fun hk => ?_
  have h1 : (2 : Int) ^ 128 ≤ 2 ^ k := pow_mono (by omega)
  have h2 : 1 ≤ a * q0 := Int.mul_pos ha hq0
  have h3 : 1 * (2 : Int) ^ k ≤ a * q0 * 2 ^ k := Int.mul_le_mul_of_nonneg_right h2 (Int.le_of_lt (Int.pow_pos (by decide)))
  have h4 : p0 * b ≤ 2 ^ 64 * 2 ^ 64 := Int.mul_le_mul (by omega) (by omega) (by omega) (by decide)
  have h5 : (2 : Int) ^ 64 * 2 ^ 64 = 2 ^ 128 := by decide
  omega
theorem log_lt {x : Int} {k : Nat} (h0 : 0 ≤ x) (h : x < 2 ^ k) (hk : k ≤ 400000) : x.natAbs.log2 < 400001 := by
  have : x.natAbs < 2 ^ k := by
    have e : (x.natAbs : Int) = x := Int.natAbs_of_nonneg h0
    have : ((x.natAbs : Nat) : Int) < ((2 ^ k : Nat) : Int) := by rw [e]; exact_mod_cast h
    exact_mod_cast this
  have := log2_le this
  omega
theorem rounds_loop {a b p0 q0 : Int} (A : Frc a b) (ha : 0 < a) (P : Frc p0 q0) : ∀ (n k : Nat) (p q : Int), 0 ≤ p → 0 < q → p * (q0 * 2 ^ k) = p0 * q → p ≤ p0 → q ≤ q0 * 2 ^ k → k ≤ 128 → 129 - k ≤ n → (k = 0 ∨ ∃ m, k = m + 1 ∧ a * q0 * 2 ^ m < p0 * b) →
    ∃ (t : Nat) (p' q' : Int), whileF C1_rounds_till0 L1_rounds_till0 [.val (.tup [.int p, .int q]), .val (.tup [.int a, .int b]), .val (.int k)] = .nx [.val (.tup [.int p', .int q']), .val (.tup [.int a, .int b]), .val (.int t)] ∧ t ≤ 128 ∧ p0 * b ≤ a * q0 * 2 ^ t ∧ (t = 0 ∨ ∃ m, t = m + 1 ∧ a * q0 * 2 ^ m < p0 * b) := by
  intro n
  induction n with
  | zero => intro k p q _ _ _ _ _ hk hn; omega
  | succ n ih =>
    intro k p q hp hq e hpp hqq hk hn hmin
    have hqB : q < 2 ^ 192 := by
      have h4 : q0 * 2 ^ k ≤ (2 ^ 64 - 1) * 2 ^ 128 := Int.mul_le_mul (show q0 ≤ 2 ^ 64 - 1 by have := P.qB; omega) (pow_mono hk) (Int.le_of_lt (Int.pow_pos (by decide))) (by decide)
      have h5 : ((2 : Int) ^ 64 - 1) * 2 ^ 128 < 2 ^ 192 := by decide
      exact Int.lt_of_le_of_lt (Int.le_trans hqq h4) h5
    have hpB : p < 2 ^ 64 := by have := P.pB; omega
    have la := log_lt A.p0 A.pB (by decide)
    have lb := log_lt (Int.le_of_lt A.q0) A.qB (by decide)
    have lp := log_lt hp hpB (by decide)
    have lq := log_lt (Int.le_of_lt hq) hqB (by decide)
    have less := is_less_ok (a := a) (b := b) (c := p) (d := q) (by omega) (by omega)
    have iff := less_iff (a := a) (b := b) hq P.q0 e
    by_cases h : a * q < p * b
    · have hk' := k_small ha P.q0 A.q0 P.p0 A.qB P.pB (iff.mp h)
      obtain ⟨p', q', L, hm⟩ := middle_ok hp hq (by omega) (by omega)
      have st : whileF C1_rounds_till0 L1_rounds_till0 [.val (.tup [.int p, .int q]), .val (.tup [.int a, .int b]), .val (.int k)] = whileF C1_rounds_till0 L1_rounds_till0 [.val (.tup [.int p', .int q']), .val (.tup [.int a, .int b]), .val (.int ((k + 1 : Nat) : Int))] := by
        refine while_step (S1 := [.val (.tup [.int p, .int q]), .val (.tup [.int a, .int b]), .val (.int k)]) ?_ ?_
        · simp -implicitDefEqProofs [C1_rounds_till0, call2 less, h]
        · simp -implicitDefEqProofs [L1_rounds_till0, call2 hm]
      rw [st]
      have e2 : p' * (q0 * 2 ^ (k + 1)) = p0 * q' := by
        have h1 := L.eq
        have hne : (2 * q : Int) ≠ 0 := by omega
        apply Int.eq_of_mul_eq_mul_right hne
        have a1 : p' * (q0 * 2 ^ (k + 1)) * (2 * q) = p' * (2 * q) * (q0 * 2 ^ (k + 1)) := by rw [Int.mul_assoc, Int.mul_comm (q0 * 2 ^ (k + 1)), ← Int.mul_assoc]
        rw [a1, h1]
        have a2 : p * q' * (q0 * 2 ^ (k + 1)) = p * (q0 * 2 ^ k) * (2 * q') := by
          rw [Int.pow_succ, Int.mul_assoc p, Int.mul_assoc p]
          congr 1
          rw [← Int.mul_assoc q0, Int.mul_comm q', Int.mul_assoc]
        rw [a2, e, Int.mul_assoc, Int.mul_assoc]
        congr 1
        rw [← Int.mul_assoc, Int.mul_comm q 2, Int.mul_assoc, Int.mul_comm q q', ← Int.mul_assoc 2, Int.mul_comm 2 q', Int.mul_assoc]
      refine ih (k + 1) p' q' L.p0 L.q0 e2 (by have := L.pa; omega) ?_ (by omega) (by omega) (.inr ⟨k, rfl, iff.mp h⟩)
      have := L.qb
      rw [Int.pow_succ, ← Int.mul_assoc]
      omega
    · refine ⟨k, p, q, while_end ?_, hk, ?_, hmin⟩
      · simp -implicitDefEqProofs [C1_rounds_till0, call2 less, h]
      · have := mt iff.mpr h
        omega
/-- what the rounds tell -/
theorem rounds_ok {a b p q : Int} (A : Frc a b) (ha : 0 < a) (P : Frc p q) : ∃ t : Nat, Gv F_rounds_till0 [.tup [.int p, .int q], .tup [.int a, .int b]] (.v (.int t)) ∧ t ≤ 128 ∧ p * b ≤ a * q * 2 ^ t ∧ (t = 0 ∨ ∃ m, t = m + 1 ∧ a * q * 2 ^ m < p * b) := by
  obtain ⟨t, p', q', h1, h2, h3, h4⟩ := rounds_loop A ha P 129 0 p q P.p0 P.q0 (by simp) (Int.le_refl _) (by simp) (by omega) (by omega) (.inl rfl)
  refine ⟨t, ?_, h2, h3, h4⟩
  unfold Gv F_rounds_till0 B_rounds_till0
  have h1' : whileF C1_rounds_till0 L1_rounds_till0 [.val (.tup [.int p, .int q]), .val (.tup [.int a, .int b]), .val (.int 0)] = .nx [.val (.tup [.int p', .int q']), .val (.tup [.int a, .int b]), .val (.int t)] := h1
  simp -implicitDefEqProofs [h1']
/-- two whole numbers are alike -/
theorem like_int (a : Int) : Gv F_law_like [.int a, .int a] (.v (.bl true)) := by
  unfold Gv F_law_like B_law_like
  have r0 : rngP 0 1000000 = .int 0 :: .int 1 :: rngP 2 999998 := by
    rw [show (1000000 : Nat) = 999998 + 1 + 1 from rfl, rngP_succ, rngP_succ]
    rfl
  have rr : sRng1 [.int 1000000] = some (.int 0 :: .int 1 :: rngP 2 999998) := by
    rw [← r0]
    rfl
  have e1 : loopF (gSet 3) L1_law_like (.int 0 :: .int 1 :: rngP 2 999998) [.val (.int a), .val (.int a), .own (.lst [.tup [.int a, .int a]]), .no, .no, .no] = .rt (.v (.bl true)) [.val (.int a), .val (.int a), .own (.lst []), .val (.int 1), .val (.int a), .val (.int a)] := by
    rw [loop_nx (S1 := [.val (.int a), .val (.int a), .own (.lst [.tup [.int a, .int a]]), .val (.int 0), .no, .no]) (S2 := [.val (.int a), .val (.int a), .own (.lst []), .val (.int 0), .val (.int a), .val (.int a)]), loop_rt (S1 := [.val (.int a), .val (.int a), .own (.lst []), .val (.int 1), .val (.int a), .val (.int a)]) (S2 := [.val (.int a), .val (.int a), .own (.lst []), .val (.int 1), .val (.int a), .val (.int a)])]
    · simp
    · have : sEq (.lst []) (.lst []) = some (.bl true) := rfl
      simp -implicitDefEqProofs [L1_law_like, this]
    · simp
    · have : sEq (.lst [.tup [.int a, .int a]]) (.lst []) = some (.bl false) := by
        rfl
      simp -implicitDefEqProofs [L1_law_like, this, sPop, isTy, isTyK, kdOf]
  simp -implicitDefEqProofs [rr, kFor_ap, e1]

theorem inner_ok {s0 s1 p q : Int} (A : Frc s0 s1) (ha : 0 < s0) (P : Frc p q) (x0 x1 x2 x4 x6 : Sl) (h6 : slUnp (some x6) = true) :
    ∃ t : Int, L1_law0 [x0, x1, x2, .val (.tup [.int s0, .int s1]), x4, .val (.tup [.int p, .int q]), x6] = .nx [x0, x1, x2, .val (.tup [.int s0, .int s1]), x4, .val (.tup [.int p, .int q]), .val (.int t)] := by
  obtain ⟨t, h1, h2, h3, h4⟩ := rounds_ok A ha P
  refine ⟨t, ?_⟩
  have la := log_lt A.p0 A.pB (by decide)
  have lb := log_lt (Int.le_of_lt A.q0) A.qB (by decide)
  have lp := log_lt P.p0 P.pB (by decide)
  have lq := log_lt (Int.le_of_lt P.q0) P.qB (by decide)
  have big : ∀ m : Nat, m ≤ 128 → (s0 * 2 ^ m).natAbs.log2 < 400001 := fun m hm => by
    have h4 : s0 * 2 ^ m ≤ (2 ^ 64 - 1) * 2 ^ 128 := Int.mul_le_mul (show s0 ≤ 2 ^ 64 - 1 by have := A.pB; omega) (pow_mono hm) (Int.le_of_lt (Int.pow_pos (by decide))) (by decide)
    have h5 : ((2 : Int) ^ 64 - 1) * 2 ^ 128 < 2 ^ 192 := by decide
    exact log_lt (Int.le_of_lt (Int.mul_pos ha (Int.pow_pos (by decide)))) (Int.lt_of_le_of_lt h4 h5) (by decide)
  have sw : ∀ m : Nat, s0 * 2 ^ m * q = s0 * q * 2 ^ m := fun m => by rw [Int.mul_assoc, Int.mul_comm (2 ^ m), ← Int.mul_assoc]
  have ms : ∀ m : Nat, sMul (.int s0) (.int (2 ^ m)) = some (.int (s0 * 2 ^ m)) := fun m => sMul_left (by have := A.p0; omega) A.pB
  have c1 : ¬ (s0 * 2 ^ t * q < p * s1) := by rw [sw]; omega
  have l1 := less_than_ok (a := s0 * 2 ^ t) (b := s1) (c := p) (d := q) (by have := big t h2; omega) (by omega)
  have tl : ¬ (200 : Int) < (t : Int) := by omega
  have tl' : ¬ 200 < t := by omega
  have tn : ¬ (t : Int) < 0 := by omega
  have ts0 : sShl (.int 1) (.int (t : Int)) = some (.int (2 ^ t)) := by
    rw [sShl_int (by omega) (by omega) (by decide), Int.toNat_natCast, Int.one_mul]
  rcases h4 with h4 | ⟨m, hm, h4⟩
  · have tz : ¬ (0 : Int) < (t : Int) := by omega
    have tz' : ¬ 0 < t := by omega
    simp -implicitDefEqProofs [L1_law0, call2 h1, h6, gI, isTy, isTyK, kdOf, ts0, ms, call2 l1, c1, tl, tl', tn, tz, tz']
  · have c2 : s0 * 2 ^ m * q < p * s1 := by rw [sw]; exact h4
    have l2 := less_than_ok (a := s0 * 2 ^ m) (b := s1) (c := p) (d := q) (by have := big m (by omega); omega) (by omega)
    have tz : (0 : Int) < (t : Int) := by omega
    have tz' : 0 < t := by omega
    have tm : ((t : Int) - 1).toNat = m := by omega
    have ts : sShl (.int 1) (.int ((t : Int) - 1)) = some (.int (2 ^ m)) := by
      rw [sShl_int (by omega) (by omega) (by decide), tm, Int.one_mul]
    simp -implicitDefEqProofs [L1_law0, call2 h1, h6, gI, isTy, isTyK, kdOf, ts0, ms, call2 l1, call2 l2, c1, c2, tl, tl', tn, tz, tz', ts]

theorem small_frc {a b : Int} {p q : Int} (L : Low a b p q) (ha : a < 2 ^ 64) (hb : b < 2 ^ 64) : Frc p q := ⟨L.p0, L.q0, by have := L.pa; omega, by have := L.qb; omega⟩
theorem body_ok (ns : List Int) (k : Nat) (s2 s3 s4 s5 s6 : Sl) (h2 : slUnp (some s2) = true) (h3 : slUnp (some s3) = true) (h4 : slUnp (some s4) = true) (h5 : slUnp (some s5) = true) (h6 : slUnp (some s6) = true) :
    ∃ S, L2_law0 [.val (.scr ns), .val (.int k), s2, s3, s4, s5, s6] = .nx S ∧ ∃ t1 t2 t3 t4 t5 t6, S = [.val (.scr ns), t1, t2, t3, t4, t5, t6] ∧ slUnp (some t1) = true ∧ slUnp (some t2) = true ∧ slUnp (some t3) = true ∧ slUnp (some t4) = true ∧ slUnp (some t5) = true ∧ slUnp (some t6) = true := by
  obtain ⟨a, b, hbox⟩ := box_ok ns k
  have l50 : (50 : Int).natAbs.log2 < 9000 := by decide
  obtain ⟨r1, a1, b1, p1, q1, e1⟩ := take_at a b 50 (by decide) l50 2
  obtain ⟨r2, a2, b2, p2, q2, e2⟩ := take_at a1 b1 50 (by decide) l50 2
  obtain ⟨r3, a3, b3, p3, q3, e3⟩ := take_at a2 b2 30 (by decide) (by decide) 2
  obtain ⟨r4, a4, b4, p4, q4, e4⟩ := take_at a3 b3 1000000 (by decide) (by decide) 2
  obtain ⟨r5, a5, b5, p5, q5, e5⟩ := take_at a4 b4 99 (by decide) (by decide) 2
  obtain ⟨s0, s1, L0, hl0⟩ := lowest_ok (a := 1 + r1) (b := 1 + r2) (by omega) (by omega) (by omega)
  have pa := L0.pa
  have qb := L0.qb
  have s0p := L0.pp (by omega)
  have s1p := L0.q0
  have A : Frc s0 s1 := small_frc L0 (by omega) (by omega)
  have tsh : sShl (.int 1) (.int r3) = some (.int (2 ^ r3.toNat)) := by
    rw [sShl_int p3 (by omega) (by decide), Int.one_mul]
  have tb : (2 : Int) ^ r3.toNat ≤ 2 ^ 30 := pow_mono (by omega)
  have t0 : (0 : Int) < 2 ^ r3.toNat := Int.pow_pos (by decide)
  generalize (2 : Int) ^ r3.toNat = tt at tsh tb t0
  have m1 : s0 * tt ≤ 50 * 2 ^ 30 := Int.mul_le_mul (by omega) tb (by omega) (by decide)
  have m0 : 0 < s0 * tt := Int.mul_pos s0p t0
  obtain ⟨u0, u1, Lu, hlu⟩ := lowest_ok (a := s0 * tt) (b := s1) (by omega) (by omega) (by omega)
  obtain ⟨v0, v1, Lv, hlv⟩ := lowest_ok (a := s0 * tt * 97 + 1) (b := s1 * 97) (by omega) (by omega) (by omega)
  obtain ⟨w0, w1, Lw, hlw⟩ := lowest_ok (a := r4) (b := 1 + r5) (by omega) (by omega) (by omega)
  have Pu := small_frc Lu (by omega) (by omega)
  have Pv := small_frc Lv (by omega) (by omega)
  have Pw := small_frc Lw (by omega) (by omega)
  have ms : sMul (.int s0) (.int tt) = some (.int (s0 * tt)) := sMul_left (by omega) A.pB
  have m97 : ∀ x : Int, sMul (.int x) (.int 97) = some (.int (x * 97)) := fun x => sMul_right (by decide) (by decide)
  have pw : sPow (.int 10) (.int 6) = some (.int 1000000) := by rw [sPow_int (by decide) (by decide) (by decide)]; rfl
  have inner := loopF_inv (g := gSet 5) (F := L1_law0) (fun S => ∃ x5 x6, S = [.val (.scr ns), .val (.int k), .own (.lst [.int a5, .int b5]), .val (.tup [.int s0, .int s1]), .val (.int tt), x5, x6] ∧ slUnp (some x5) = true ∧ slUnp (some x6) = true)
    [.tup [.int u0, .int u1], .tup [.int v0, .int v1], .tup [.int w0, .int w1]] _ ⟨s5, s6, rfl, h5, h6⟩ (fun x hx S ⟨x5, x6, e, g5, g6⟩ => by
      subst e
      have go : ∀ p q : Int, Frc p q → ∃ S1 S2, gSet 5 (.tup [.int p, .int q]) [.val (.scr ns), .val (.int k), .own (.lst [.int a5, .int b5]), .val (.tup [.int s0, .int s1]), .val (.int tt), x5, x6] = some S1 ∧ (L1_law0 S1 = .nx S2 ∨ L1_law0 S1 = .ct S2) ∧ ∃ x5 x6, S2 = [.val (.scr ns), .val (.int k), .own (.lst [.int a5, .int b5]), .val (.tup [.int s0, .int s1]), .val (.int tt), x5, x6] ∧ slUnp (some x5) = true ∧ slUnp (some x6) = true := fun p q P => by
        obtain ⟨t, ht⟩ := inner_ok A s0p P (.val (.scr ns)) (.val (.int k)) (.own (.lst [.int a5, .int b5])) (.val (.int tt)) x6 g6
        exact ⟨_, _, by simp [g5], .inl ht, _, _, rfl, rfl, rfl⟩
      rcases List.mem_cons.mp hx with rfl | hx
      · exact go _ _ Pu
      rcases List.mem_cons.mp hx with rfl | hx
      · exact go _ _ Pv
      rcases List.mem_cons.mp hx with rfl | hx
      · exact go _ _ Pw
      cases hx)
  obtain ⟨S', hS', x5, x6, e, g5, g6⟩ := inner
  refine ⟨S', ?_, .val (.int k), .own (.lst [.int a5, .int b5]), .val (.tup [.int s0, .int s1]), .val (.int tt), x5, x6, e, rfl, rfl, rfl, rfl, g5, g6⟩
  simp -implicitDefEqProofs [L2_law0, call2 hbox, h2, h3, h4, h5, h6, e1, e2, e3, e4, e5, call2 hl0, tsh, ms, m97, call2 hlu, call2 hlv, pw, call2 hlw, kFor_ap, hS']

theorem law_ok (ns : List Int) : Gv F_law0 [.scr ns] (.v (.bl true)) := by
  have F11 : Frc 1 1 := ⟨by decide, by decide, by decide, by decide⟩
  have F101 : Frc 10 1 := ⟨by decide, by decide, by decide, by decide⟩
  have F01 : Frc 0 1 := ⟨by decide, by decide, by decide, by decide⟩
  have F19 : Frc 1 9 := ⟨by decide, by decide, by decide, by decide⟩
  obtain ⟨t, r1, _, g1, g2⟩ := rounds_ok F11 (by decide) F101
  have et : t = 4 := by
    have h1 : ¬ t ≤ 3 := fun h => by
      have := pow_mono h
      have e : (2 : Int) ^ 3 = 8 := by decide
      omega
    rcases g2 with h | ⟨m, hm, h⟩
    · omega
    · have h2 : ¬ 4 ≤ m := fun h' => by
        have := pow_mono h'
        have e : (2 : Int) ^ 4 = 16 := by decide
        omega
      omega
  subst et
  obtain ⟨u, r2, _, g3, g4⟩ := rounds_ok F19 (by decide) F01
  have eu : u = 0 := by
    rcases g4 with h | ⟨m, hm, h⟩
    · exact h
    · have : (0 : Int) < 2 ^ m := Int.pow_pos (by decide)
      omega
  subst eu
  have r1' : Gv F_rounds_till0 [.tup [.int 10, .int 1], .tup [.int 1, .int 1]] (.v (.int 4)) := r1
  have r2' : Gv F_rounds_till0 [.tup [.int 0, .int 1], .tup [.int 1, .int 9]] (.v (.int 0)) := r2
  have key : ∀ c : Int, 0 ≤ c → c ≤ 16 → ∃ j : Int, sMax2 [.int 6, .int c] = some (.int j) ∧ sRng1 [.int j] = some (rngP 0 j.toNat) := fun c h0 h1 => by
    by_cases h : c > 6
    · exact ⟨c, by rw [sMax2_int, if_pos h], if_pos ⟨by omega, by omega⟩⟩
    · exact ⟨6, by rw [sMax2_int, if_neg h], rfl⟩
  obtain ⟨j, hj, hn⟩ := key (if (16 : Int) < (ns.length : Int) then 16 else (ns.length : Int)) (by split <;> omega) (by split <;> omega)
  generalize j.toNat = n at hn
  obtain ⟨S', hS', t1, t2, t3, t4, t5, t6, e, q1, q2, q3, q4, q5, q6⟩ := loopF_inv (g := gSet 1) (F := L2_law0) (fun S => ∃ t1 t2 t3 t4 t5 t6, S = [.val (.scr ns), t1, t2, t3, t4, t5, t6] ∧ slUnp (some t1) = true ∧ slUnp (some t2) = true ∧ slUnp (some t3) = true ∧ slUnp (some t4) = true ∧ slUnp (some t5) = true ∧ slUnp (some t6) = true) (rngP 0 n) [.val (.scr ns), .no, .no, .no, .no, .no, .no] ⟨_, _, _, _, _, _, rfl, rfl, rfl, rfl, rfl, rfl, rfl⟩ (fun x hx S ⟨t1, t2, t3, t4, t5, t6, e, q1, q2, q3, q4, q5, q6⟩ => by
    subst e
    obtain ⟨i, _, rfl⟩ := rngP_mem hx
    rw [Int.zero_add]
    obtain ⟨S2, h1, h2⟩ := body_ok ns i t2 t3 t4 t5 t6 q2 q3 q4 q5 q6
    exact ⟨_, S2, by simp [q1], .inl h1, h2⟩)
  subst e
  unfold Gv F_law0 B_law0
  simp -implicitDefEqProofs [call2 r1', call2 r2', call2 (like_int 4), call2 (like_int 0), -sMax2_int, hj, hn, kFor_ap, hS']
end VP
open PySem PySem.W PySem.Calls PyProof.Rows in
set_option maxHeartbeats 0 in
theorem PySem.Challenge.cw_nolieholds_k82_how_many_rounds_holds : PySem.Challenge.rw_nolieholds_k82_how_many_rounds.Holds := by
  w_on; o_law
  refine HandSHeadRun.head_any (r := OpenLaw.row PySem.Challenge.rw_nolieholds_k82_how_many_rounds) (q := view (OpenLaw.row PySem.Challenge.rw_nolieholds_k82_how_many_rounds).prog [13]) (H := VP.hk) (ob := VP.ob) (M := 4000) (loose := VP.loose) (d := HandSHeadRun.topDef (OpenLaw.row PySem.Challenge.rw_nolieholds_k82_how_many_rounds).prog 13) (kwd := []) VP.ob_eq
    (by kernel_rfl) (fun s => by kernel_rfl) VP.run (by kernel_rfl) (by kernel_rfl) (by kernel_rfl) (by rfl) (by first | assumption | decide +kernel) (by decide +kernel) ⟨rfl, rfl, rfl, rfl, rfl, by decide +kernel⟩ ?hw ?hc
  case hw => w_witness2
  case hc =>
    refine VL.walk_end (l := PySem.Challenge.rw_nolieholds_k82_how_many_rounds) (n := 63) (k := 5) (x := "script") (fn := VP.F_law0) rfl (by decide) (by kernel_rfl) ⟨rfl, by decide, by decide⟩ (fun ns _ => let ⟨outs, h, _⟩ := VP.law_ok ns; ⟨outs, h⟩) ?F
    intro w mg fa h Y G hmg0
    obtain ⟨K, KX, c⟩ := Y
    have hmg : mg ("law" : PySem.Str) = some (.ref fa) := by
      have e : (HandSHeadRun.topDef (OpenLaw.row PySem.Challenge.rw_nolieholds_k82_how_many_rounds).prog 13).name = ("law" : PySem.Str) := by kernel_rfl
      rw [← e]
      exact hmg0
    have f := VP.facts KX G c
    have ea : f.a_law0 = fa := by
      have e := f.g_law0.symm.trans hmg
      cases e
      rfl
    subst ea
    exact ⟨K, f.d_law0, KX, fun s u => L2.FunD.bindsA (ps := ["script"]) f.F_law0 (fun _ _ _ _ _ _ us hl => match us, hl with | [_], _ => rfl) s [u] rfl, fun base _ _ => VP.ok_law0 f⟩

