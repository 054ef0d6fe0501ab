import PyProof.Rows.All
import Wide.All
import OpenK.AllK
import Wide.FinOn
import HandS.ForMost
import HandS.ForExc
import HandS.Conv
import HandS.Deep
import HandS.TupAny
import HandS.TupMul
import HandS.Wide
import HandS.IsInst
import HandS.TupLe
import HandS.Walk
import HandS.Zip
import HandS.Rev
import KE.GoesEnum
import PyProof.EnumMake
import HandS.Call
import HandS.Ends
import HandS.More
import HandS.Words
import HandS.WordsExc
import HandS.Defaults
import HandS.CallSlots
import HandS.ExcOwn
import KE.KItemsList
import KE.GoesMore
import KE.GoesZip
import HandS.ListItems
import HandS.Head0
import HandS.Head1
import HandS.Head2
import HandS.HeadEnd
import HandS.HeadHook1
import HandS.HeadHook2
import KE.KStateDown
import HandS.SortOrd
import HandS.SortInts
import HandS.TupSets
import KE.KTupSum
import HandS.Style
import PySem.Challenge.RW_nolieholds_k67_whole_what_lots_see_tells
set_option Elab.async false
set_option linter.all false
set_option autoImplicit false
set_option maxRecDepth 100000
set_option maxHeartbeats 4000000
/-! VL0: values without addresses, slots that own what may change; how the layer's heap bears them. -/
namespace VL
open PySem L2

/-- a value, its whole content within -/
inductive PV where
  | non | bl (b : Bool) | int (i : Int) | str (x : Str)
  | tup (xs : List PV) | lst (xs : List PV)
  | dk (kvs : List (Key × PV)) | dt (kvs : List (List Key × PV)) | scr (ns : List Int)
instance : Inhabited PV := ⟨.non⟩
/-- a slot: nothing known; a value that nobody changes; an object that this frame alone holds; the caller's, lent; one that is lent for a while -/
inductive Sl where
  | no | val (x : PV) | own (x : PV) | io (x : PV) | hid
instance : Inhabited Sl := ⟨.no⟩
abbrev Sk := List Sl
def ownd : Sl → Bool
  | .own _ => true
  | .io _ => true
  | _ => false

/-- slots that keep their address -/
def pinned : Sl → Bool
  | .io _ => true
  | .hid => true
  | _ => false

/-- a list that is written nowhere any more -/
def FzL (K : PySem.W.Frag) (H : Hp) (a : Addr) (vs : List V) : Prop := (∃ o, H a = some (.frz o (.lst vs))) ∨
    ∃ (o : Obj) (its : Array Value) (n : Nat), K.lookup a = some o ∧ o.cls = .type "list" ∧ o.dict = none ∧ o.data = .seq its n ∧ its.size ≤ sizeLine ∧ Vals vs its.toList
theorem FzL.sq {K : PySem.W.Frag} {H : Hp} {a : Addr} {vs : List V} (h : FzL K H a vs) : SqL K H a vs := by
  rcases h with ⟨o, h⟩ | h
  · exact .inl (.inr ⟨o, h⟩)
  · exact .inr h

mutual
inductive Rep (K : PySem.W.Frag) (H : Hp) : V → PV → Prop
  | non : Rep K H .non .non
  | bl (b : Bool) : Rep K H (.bl b) (.bl b)
  | int (i : Int) : Rep K H (.int i) (.int i)
  | str (x : Str) : Rep K H (.str x) (.str x)
  | tup {a : Addr} {vs : List V} {xs : List PV} : H a = some (.tup vs) → RepA K H vs xs → Rep K H (.ref a) (.tup xs)
  | lst {a : Addr} {o : Obj} {vs : List V} {xs : List PV} : H a = some (.frz o (.lst vs)) → RepA K H vs xs → Rep K H (.ref a) (.lst xs)
  | scr {a : Addr} {ns : List Int} : FzL K H a (ns.map V.int) → Rep K H (.ref a) (.scr ns)
  | dk {a : Addr} {o : Obj} {ws : List (Key × V)} {kvs : List (Key × PV)} : H a = some (.frz o (.dK ws)) → RepK K H ws kvs → Rep K H (.ref a) (.dk kvs)
  | dt {a : Addr} {o : Obj} {ws : List (List Key × V)} {kvs : List (List Key × PV)} : H a = some (.frz o (.dT ws)) → RepT K H ws kvs → Rep K H (.ref a) (.dt kvs)
inductive RepA (K : PySem.W.Frag) (H : Hp) : List V → List PV → Prop
  | nil : RepA K H [] []
  | cons {v : V} {vs : List V} {x : PV} {xs : List PV} : Rep K H v x → RepA K H vs xs → RepA K H (v :: vs) (x :: xs)
inductive RepK (K : PySem.W.Frag) (H : Hp) : List (Key × V) → List (Key × PV) → Prop
  | nil : RepK K H [] []
  | cons {k : Key} {v : V} {ws : List (Key × V)} {x : PV} {kvs : List (Key × PV)} : Rep K H v x → RepK K H ws kvs → RepK K H ((k, v) :: ws) ((k, x) :: kvs)
inductive RepT (K : PySem.W.Frag) (H : Hp) : List (List Key × V) → List (List Key × PV) → Prop
  | nil : RepT K H [] []
  | cons {k : List Key} {v : V} {ws : List (List Key × V)} {x : PV} {kvs : List (List Key × PV)} : Rep K H v x → RepT K H ws kvs → RepT K H ((k, v) :: ws) ((k, x) :: kvs)
end

/-- what is never changed stands -/
structure Ext (H H' : Hp) : Prop where
  tup : ∀ a xs, H a = some (.tup xs) → H' a = some (.tup xs)
  frz : ∀ a o u, H a = some (.frz o u) → H' a = some (.frz o u)
theorem Ext.refl (H : Hp) : Ext H H := ⟨fun _ _ h => h, fun _ _ _ h => h⟩
theorem Ext.trans {H H1 H2 : Hp} (a : Ext H H1) (b : Ext H1 H2) : Ext H H2 := ⟨fun c xs h => b.tup c xs (a.tup c xs h), fun c o u h => b.frz c o u (a.frz c o u h)⟩
theorem Ext.of_same {H H' : Hp} (s : Same H H') : Ext H H' := ⟨fun a xs h => s a _ h, fun a o u h => s a _ h⟩

section
variable {K : PySem.W.Frag} {H H' : Hp}
theorem Ext.sqT (e : Ext H H') {a : Addr} {vs : List V} (h : SqT K H a vs) : SqT K H' a vs := by
  rcases h with (h | ⟨o, h⟩) | h
  · exact .inl (.inl (e.tup _ _ h))
  · exact .inl (.inr ⟨o, e.frz _ _ _ h⟩)
  · exact .inr h
theorem Ext.fzL (e : Ext H H') {a : Addr} {vs : List V} (h : FzL K H a vs) : FzL K H' a vs := by
  rcases h with ⟨o, h⟩ | h
  · exact .inl ⟨o, e.frz _ _ _ h⟩
  · exact .inr h
mutual
theorem Rep.ext (e : Ext H H') : ∀ {v : V} {x : PV}, Rep K H v x → Rep K H' v x
  | _, _, .non => .non
  | _, _, .bl b => .bl b
  | _, _, .int i => .int i
  | _, _, .str x => .str x
  | _, _, .tup h r => .tup (e.tup _ _ h) (RepA.ext e r)
  | _, _, .lst h r => .lst (e.frz _ _ _ h) (RepA.ext e r)
  | _, _, .scr h => .scr (e.fzL h)
  | _, _, .dk h r => .dk (e.frz _ _ _ h) (RepK.ext e r)
  | _, _, .dt h r => .dt (e.frz _ _ _ h) (RepT.ext e r)
theorem RepA.ext (e : Ext H H') : ∀ {vs : List V} {xs : List PV}, RepA K H vs xs → RepA K H' vs xs
  | _, _, .nil => .nil
  | _, _, .cons r rs => .cons (Rep.ext e r) (RepA.ext e rs)
theorem RepK.ext (e : Ext H H') : ∀ {vs : List (Key × V)} {xs : List (Key × PV)}, RepK K H vs xs → RepK K H' vs xs
  | _, _, .nil => .nil
  | _, _, .cons r rs => .cons (Rep.ext e r) (RepK.ext e rs)
theorem RepT.ext (e : Ext H H') : ∀ {vs : List (List Key × V)} {xs : List (List Key × PV)}, RepT K H vs xs → RepT K H' vs xs
  | _, _, .nil => .nil
  | _, _, .cons r rs => .cons (Rep.ext e r) (RepT.ext e rs)
end

theorem RepA.length : ∀ {vs : List V} {xs : List PV}, RepA K H vs xs → vs.length = xs.length
  | _, _, .nil => rfl
  | _, _, .cons _ rs => by rw [List.length_cons, List.length_cons, RepA.length rs]
theorem RepA.get : ∀ {vs : List V} {xs : List PV} {i : Nat} {v : V}, RepA K H vs xs → vs[i]? = some v → ∃ x, xs[i]? = some x ∧ Rep K H v x
  | _, _, i, _, .nil, h => by simp at h
  | _, _, 0, _, .cons r _, h => by simp at h; subst h; exact ⟨_, rfl, r⟩
  | _, _, i + 1, _, .cons _ rs, h => by simpa using RepA.get rs (by simpa using h)
theorem RepA.get' : ∀ {vs : List V} {xs : List PV} {i : Nat} {x : PV}, RepA K H vs xs → xs[i]? = some x → ∃ v, vs[i]? = some v ∧ Rep K H v x
  | _, _, i, _, .nil, h => by simp at h
  | _, _, 0, _, .cons r _, h => by simp at h; subst h; exact ⟨_, rfl, r⟩
  | _, _, i + 1, _, .cons _ rs, h => by simpa using RepA.get' rs (by simpa using h)
theorem RepA.append : ∀ {vs ws : List V} {xs ys : List PV}, RepA K H vs xs → RepA K H ws ys → RepA K H (vs ++ ws) (xs ++ ys)
  | _, _, _, _, .nil, s => s
  | _, _, _, _, .cons r rs, s => .cons r (RepA.append rs s)
theorem RepA.take : ∀ {vs : List V} {xs : List PV} (n : Nat), RepA K H vs xs → RepA K H (vs.take n) (xs.take n)
  | _, _, 0, _ => .nil
  | _, _, _ + 1, .nil => .nil
  | _, _, n + 1, .cons r rs => .cons r (RepA.take n rs)
theorem RepA.drop : ∀ {vs : List V} {xs : List PV} (n : Nat), RepA K H vs xs → RepA K H (vs.drop n) (xs.drop n)
  | _, _, 0, r => r
  | _, _, _ + 1, .nil => .nil
  | _, _, n + 1, .cons _ rs => RepA.drop n rs
theorem RepA.set {v : V} {x : PV} (r : Rep K H v x) : ∀ {vs : List V} {xs : List PV} (i : Nat), RepA K H vs xs → RepA K H (vs.set i v) (xs.set i x)
  | _, _, _, .nil => .nil
  | _, _, 0, .cons _ rs => .cons r rs
  | _, _, i + 1, .cons q rs => .cons q (RepA.set r i rs)
theorem RepA.reverse {vs : List V} {xs : List PV} (r : RepA K H vs xs) : RepA K H vs.reverse xs.reverse := by
  have go : ∀ {vs ws : List V} {xs ys : List PV}, RepA K H vs xs → RepA K H ws ys → RepA K H (vs.reverse ++ ws) (xs.reverse ++ ys) := by
    intro vs
    induction vs with
    | nil => intro ws xs ys h s; cases h; exact s
    | cons v vs ih =>
      intro ws xs ys h s
      cases h with
      | cons a b => simpa using ih b (RepA.cons a s)
  simpa using go r (RepA.nil (K := K) (H := H))
theorem RepA.eraseIdx : ∀ {vs : List V} {xs : List PV} (i : Nat), RepA K H vs xs → RepA K H (vs.eraseIdx i) (xs.eraseIdx i)
  | _, _, _, .nil => .nil
  | _, _, 0, .cons _ rs => rs
  | _, _, i + 1, .cons q rs => .cons q (RepA.eraseIdx i rs)
theorem RepA.dropLast {vs : List V} {xs : List PV} (r : RepA K H vs xs) : RepA K H vs.dropLast xs.dropLast := by
  rw [List.dropLast_eq_take, List.dropLast_eq_take, r.length]
  exact r.take _
theorem RepA.replicate {vs : List V} {xs : List PV} (r : RepA K H vs xs) : ∀ n : Nat, RepA K H (List.replicate n vs).flatten (List.replicate n xs).flatten
  | 0 => .nil
  | n + 1 => by
    rw [List.replicate_succ, List.replicate_succ, List.flatten_cons, List.flatten_cons]
    exact r.append (RepA.replicate r n)
theorem RepA.ints : ∀ {ns : List Int} {vs : List V}, RepA K H vs (ns.map PV.int) → vs = ns.map V.int
  | [], _, h => by cases h; rfl
  | n :: ns, _, h => by
    cases h with
    | cons a b => cases a; rw [RepA.ints b, List.map_cons]
theorem RepA.of_ints : ∀ (ns : List Int), RepA K H (ns.map V.int) (ns.map PV.int)
  | [] => .nil
  | n :: ns => .cons (.int n) (RepA.of_ints ns)
theorem RepA.bls : ∀ {ns : List Bool} {vs : List V}, RepA K H vs (ns.map PV.bl) → vs = ns.map V.bl
  | [], _, h => by cases h; rfl
  | n :: ns, _, h => by
    cases h with
    | cons a b => cases a; rw [RepA.bls b, List.map_cons]
theorem RepA.append_inv : ∀ {xs ys : List PV} {vs : List V}, RepA K H vs (xs ++ ys) → ∃ ws zs, vs = ws ++ zs ∧ RepA K H ws xs ∧ RepA K H zs ys
  | [], _, vs, h => ⟨[], vs, rfl, .nil, h⟩
  | x :: xs, ys, _, h => by
    cases h with
    | cons a b =>
      obtain ⟨ws, zs, e, h1, h2⟩ := RepA.append_inv b
      subst e
      exact ⟨_ :: ws, zs, rfl, .cons a h1, h2⟩
end

/-- an object and its content -/
def RepOb (K : PySem.W.Frag) (H : Hp) (u : HO) (x : PV) : Prop := match u, x with
  | .lst vs, .lst xs => RepA K H vs xs
  | .dK ws, .dk kvs => RepK K H ws kvs
  | .dT ws, .dt kvs => RepT K H ws kvs
  | _, _ => False
theorem RepOb.ext {K : PySem.W.Frag} {H H' : Hp} (e : Ext H H') {u : HO} {x : PV} (h : RepOb K H u x) : RepOb K H' u x := by
  cases u <;> cases x <;> first | exact (show False from h).elim | exact RepA.ext e h | exact RepK.ext e h | exact RepT.ext e h
theorem RepOb.mut {K : PySem.W.Frag} {H : Hp} {u : HO} {x : PV} (h : RepOb K H u x) : Mut (some u) := by
  cases u <;> cases x <;> first | exact (show False from h).elim | exact True.intro
theorem RepOb.notTup {K : PySem.W.Frag} {H : Hp} {u : HO} {x : PV} (h : RepOb K H u x) (vs : List V) : u ≠ .tup vs := by
  intro e; subst e; cases x <;> exact (show False from h).elim
theorem RepOb.notFrz {K : PySem.W.Frag} {H : Hp} {u : HO} {x : PV} (h : RepOb K H u x) (o : Obj) (w : HO) : u ≠ .frz o w := by
  intro e; subst e; cases x <;> exact (show False from h).elim
theorem RepOb.frz {K : PySem.W.Frag} {H : Hp} {a : Addr} {o : Obj} {u : HO} {x : PV} (h : RepOb K H u x) (e : H a = some (.frz o u)) : Rep K H (.ref a) x := by
  cases u <;> cases x <;> first | exact (show False from h).elim | exact .lst e h | exact .dk e h | exact .dt e h

def SlRel (K : PySem.W.Frag) (H : Hp) (s : Sl) (o : Option (Option V)) : Prop := match s with
  | .no => True
  | .hid => True
  | .val x => ∃ v, o = some (some v) ∧ Rep K H v x
  | .own x => ∃ a u, o = some (some (V.ref a)) ∧ H a = some u ∧ RepOb K H u x
  | .io x => ∃ a u, o = some (some (V.ref a)) ∧ H a = some u ∧ RepOb K H u x
/-- the slots, as the frame bears them -/
structure RelS (K : PySem.W.Frag) (S : Sk) (σ : St) (H : Hp) : Prop where
  len : σ.length = S.length
  sl : ∀ (i : Nat) (s : Sl), S[i]? = some s → SlRel K H s σ[i]?
  dj : ∀ (i j : Nat) (s t : Sl) (a : Addr), S[i]? = some s → S[j]? = some t → ownd s = true → ownd t = true → σ[i]? = some (some (V.ref a)) → σ[j]? = some (some (V.ref a)) → i = j
/-- an address that this frame may write -/
def Owns (S : Sk) (σ : St) (a : Addr) : Prop := ∃ (i : Nat) (s : Sl), S[i]? = some s ∧ ownd s = true ∧ σ[i]? = some (some (V.ref a))
/-- from here to there: what was tracked and is not ours stands; what is lent is lent still -/
structure Frm (S : Sk) (σ : St) (H : Hp) (S' : Sk) (σ' : St) (H' : Hp) : Prop where
  keep : ∀ a o, H a = some o → ¬ Owns S σ a → H' a = some o ∧ ¬ Owns S' σ' a
  io : ∀ (i : Nat) (s : Sl), S'[i]? = some s → pinned s = true → (∃ t, S[i]? = some t ∧ pinned t = true) ∧ σ'[i]? = σ[i]?
theorem Frm.refl {S : Sk} {σ : St} {H : Hp} : Frm S σ H S σ H := ⟨fun _ _ h n => ⟨h, n⟩, fun _ s h p => ⟨⟨s, h, p⟩, rfl⟩⟩
theorem Frm.trans {S S1 S2 : Sk} {σ σ1 σ2 : St} {H H1 H2 : Hp} (a : Frm S σ H S1 σ1 H1) (b : Frm S1 σ1 H1 S2 σ2 H2) : Frm S σ H S2 σ2 H2 :=
  ⟨fun c o h n => let ⟨h1, n1⟩ := a.keep c o h n; b.keep c o h1 n1, fun i s h p => by
    obtain ⟨⟨y, h1, p1⟩, e1⟩ := b.io i s h p
    obtain ⟨h2, e2⟩ := a.io i y h1 p1
    exact ⟨h2, e1.trans e2⟩⟩
section
variable {K : PySem.W.Frag} {S S' : Sk} {σ σ' : St} {H H' : Hp}
theorem RelS.owned (R : RelS K S σ H) {a : Addr} (h : Owns S σ a) : ∃ u x, H a = some u ∧ RepOb K H u x := by
  obtain ⟨i, s, h1, h2, h3⟩ := h
  have q := R.sl i s h1
  cases s with
  | no => cases h2
  | hid => cases h2
  | val x => cases h2
  | own x =>
    obtain ⟨b, u, e, hb, r⟩ := (show ∃ a u, σ[i]? = some (some (V.ref a)) ∧ H a = some u ∧ RepOb K H u x from q)
    rw [h3] at e; cases e
    exact ⟨u, x, hb, r⟩
  | io x =>
    obtain ⟨b, u, e, hb, r⟩ := (show ∃ a u, σ[i]? = some (some (V.ref a)) ∧ H a = some u ∧ RepOb K H u x from q)
    rw [h3] at e; cases e
    exact ⟨u, x, hb, r⟩
theorem RelS.notTup (R : RelS K S σ H) {a : Addr} {xs : List V} (h : H a = some (.tup xs)) : ¬ Owns S σ a := fun o => by
  obtain ⟨u, x, hu, r⟩ := R.owned o
  rw [h] at hu; cases hu
  exact r.notTup _ rfl
theorem RelS.notFrz (R : RelS K S σ H) {a : Addr} {o : Obj} {w : HO} (h : H a = some (.frz o w)) : ¬ Owns S σ a := fun q => by
  obtain ⟨u, x, hu, r⟩ := R.owned q
  rw [h] at hu; cases hu
  exact r.notFrz _ _ rfl
theorem RelS.notFree (R : RelS K S σ H) {a : Addr} (h : H a = none) : ¬ Owns S σ a := fun q => by
  obtain ⟨u, x, hu, r⟩ := R.owned q
  rw [h] at hu; cases hu
theorem RelS.ext (R : RelS K S σ H) (F : Frm S σ H S' σ' H') : Ext H H' :=
  ⟨fun a xs h => (F.keep a _ h (R.notTup h)).1, fun a o u h => (F.keep a _ h (R.notFrz h)).1⟩
/-- nothing of ours is touched, things may be made -/
theorem RelS.same (R : RelS K S σ H) (s : Same H H') : RelS K S σ H' := by
  have e := Ext.of_same s
  refine ⟨R.len, fun i sl h => ?_, R.dj⟩
  have q := R.sl i sl h
  cases sl with
  | no => trivial
  | hid => trivial
  | val x =>
    obtain ⟨v, h1, h2⟩ := (show ∃ v, σ[i]? = some (some v) ∧ Rep K H v x from q)
    exact ⟨v, h1, h2.ext e⟩
  | own x =>
    obtain ⟨a, u, h1, h2, h3⟩ := (show ∃ a u, σ[i]? = some (some (V.ref a)) ∧ H a = some u ∧ RepOb K H u x from q)
    exact ⟨a, u, h1, s _ _ h2, h3.ext e⟩
  | io x =>
    obtain ⟨a, u, h1, h2, h3⟩ := (show ∃ a u, σ[i]? = some (some (V.ref a)) ∧ H a = some u ∧ RepOb K H u x from q)
    exact ⟨a, u, h1, s _ _ h2, h3.ext e⟩
theorem Frm.same (s : Same H H') : Frm S σ H S σ H' := ⟨fun a o h n => ⟨s a o h, n⟩, fun _ s h p => ⟨⟨s, h, p⟩, rfl⟩⟩
/-- slots by place -/
theorem RelS.atVal (R : RelS K S σ H) {i : Nat} {x : PV} (h : S[i]? = some (.val x)) : ∃ v, σ[i]? = some (some v) ∧ Rep K H v x := R.sl i _ h
theorem RelS.atOwn (R : RelS K S σ H) {i : Nat} {x : PV} (h : S[i]? = some (.own x)) : ∃ a u, σ[i]? = some (some (V.ref a)) ∧ H a = some u ∧ RepOb K H u x := R.sl i _ h
theorem RelS.atIo (R : RelS K S σ H) {i : Nat} {x : PV} (h : S[i]? = some (.io x)) : ∃ a u, σ[i]? = some (some (V.ref a)) ∧ H a = some u ∧ RepOb K H u x := R.sl i _ h
end
theorem same_upd {H : Hp} {p : Addr} {u : HO} (n : H p = none) : Same H (upd H p u) := fun b o h => by rw [upd_ne (ne_of_none h n)]; exact h
end VL

set_option Elab.async false
set_option linter.all false
set_option autoImplicit false
set_option maxRecDepth 100000
set_option maxHeartbeats 4000000
/-! VL1: what an expression does to the slots; how it is told of the layer's readings; operators by what they do to values. -/
namespace VL
open PySem L2

/-- an error: its class, its fields -/
structure Exn where
  cls : Str
  flds : List (Str × PV)
inductive R (α : Type) where
  | stuck | ok (a : α) (S : Sk) | exc (x : Exn) (S : Sk)
def R.bind {α β : Type} (r : R α) (f : α → Sk → R β) : R β := match r with
  | .stuck => .stuck
  | .ok a S => f a S
  | .exc x S => .exc x S
@[simp] theorem R.bind_ok {α β : Type} (a : α) (S : Sk) (f : α → Sk → R β) : (R.ok a S).bind f = f a S := rfl
@[simp] theorem R.bind_stuck {α β : Type} (f : α → Sk → R β) : (R.stuck : R α).bind f = .stuck := rfl
@[simp] theorem R.bind_exc {α β : Type} (x : Exn) (S : Sk) (f : α → Sk → R β) : (R.exc x S : R α).bind f = .exc x S := rfl

def RepF (K : PySem.W.Frag) (H : Hp) : List (Str × V) → List (Str × PV) → Prop
  | [], [] => True
  | (f, v) :: vs, (g, x) :: xs => f = g ∧ Rep K H v x ∧ RepF K H vs xs
  | _, _ => False
/-- an error as it lies behind the raise: its class, its own dict -/
def ExnRep (K : PySem.W.Frag) (mg : Str → Option Value) (H : Hp) (cls : Value) (d : Option Addr) (x : Exn) : Prop :=
  mg x.cls = some cls ∧ ∃ dx vs, d = some dx ∧ H dx = some (.xd vs) ∧ RepF K H vs x.flds

section
variable (K : PySem.W.Frag) (mg : Str → Option Value) (W : WX)
def PostE (S : Sk) (σ : St) (H : Hp) (r : R PV) (Q : VK) : Prop := match r with
  | .stuck => False
  | .ok x S' => ∀ v H', Rep K H' v x → RelS K S' σ H' → Frm S σ H S' σ H' → Q v H'
  | .exc e S' => ∀ cls d H', ExnRep K mg H' cls d e → RelS K S' σ H' → Frm S σ H S' σ H' → W cls d σ H'
def LiftE (f : Sk → R PV) : TE := fun σ H Q => ∃ S, RelS K S σ H ∧ PostE K mg W S σ H (f S) Q
/-- a test -/
def PostT (S : Sk) (σ : St) (H : Hp) (r : R Bool) (Q : Bool → Hp → Prop) : Prop := match r with
  | .stuck => False
  | .ok x S' => ∀ H', RelS K S' σ H' → Frm S σ H S' σ H' → Q x H'
  | .exc e S' => ∀ cls d H', ExnRep K mg H' cls d e → RelS K S' σ H' → Frm S σ H S' σ H' → W cls d σ H'
def LiftT (f : Sk → R Bool) : TT := fun σ H Q => ∃ S, RelS K S σ H ∧ PostT K mg W S σ H (f S) Q
/-- a new object (list, dict) that nobody else holds -/
def PostL (S : Sk) (σ : St) (H : Hp) (r : R PV) (Q : VK) : Prop := match r with
  | .stuck => False
  | .ok x S' => ∀ p u H', H' p = some u → RepOb K H' u x → ¬ Owns S' σ p → (∀ o, H p = some o → Owns S σ p) → RelS K S' σ H' → Frm S σ H S' σ H' → Q (.ref p) H'
  | .exc e S' => ∀ cls d H', ExnRep K mg H' cls d e → RelS K S' σ H' → Frm S σ H S' σ H' → W cls d σ H'
def LiftL (f : Sk → R PV) : TE := fun σ H Q => ∃ S, RelS K S σ H ∧ PostL K mg W S σ H (f S) Q
/-- what an operator is given: a value, or what a slot of ours holds when all are reckoned -/
inductive OV where
  | v (x : PV) | s (j : Nat)
def OVRel (σ : St) (H : Hp) : OV → V → Prop
  | .v x, v => Rep K H v x
  | .s j, v => σ[j]? = some (some v)
def PostO (S : Sk) (σ : St) (H : Hp) (r : R OV) (Q : VK) : Prop := match r with
  | .stuck => False
  | .ok x S' => ∀ v H', OVRel K σ H' x v → RelS K S' σ H' → Frm S σ H S' σ H' → Q v H'
  | .exc e S' => ∀ cls d H', ExnRep K mg H' cls d e → RelS K S' σ H' → Frm S σ H S' σ H' → W cls d σ H'
def LiftO (f : Sk → R OV) : TE := fun σ H Q => ∃ S, RelS K S σ H ∧ PostO K mg W S σ H (f S) Q
end
structure EV (X : Cx) (W : WX) (e : Expr) (f : Sk → R PV) : Prop where
  pe : PE X e (LiftE X.K X.mg W f)
structure ET (X : Cx) (W : WX) (e : Expr) (f : Sk → R Bool) : Prop where
  pt : PT X e (LiftT X.K X.mg W f)
structure EL (X : Cx) (W : WX) (e : Expr) (f : Sk → R PV) : Prop where
  pe : PE X e (LiftL X.K X.mg W f)
structure EO (X : Cx) (W : WX) (e : Expr) (f : Sk → R OV) : Prop where
  pe : PE X e (LiftO X.K X.mg W f)
theorem PE.imp {X : Cx} {e : Expr} {t t' : TE} (h : PE X e t) (i : ∀ σ H Q, t' σ H Q → t σ H Q) : PE X e t' := ⟨fun pins s σ H Q I q => h.run pins s σ H Q I (i σ H Q q)⟩
theorem PT.imp {X : Cx} {e : Expr} {t t' : TT} (h : PT X e t) (i : ∀ σ H Q, t' σ H Q → t σ H Q) : PT X e t' := ⟨fun pins s σ H Q I q => h.run pins s σ H Q I (i σ H Q q)⟩

section
variable {X : Cx} {W : WX} {K : PySem.W.Frag} {mg : Str → Option Value} {S : Sk} {σ : St} {H H' : Hp}
theorem OVRel.ext (e : Ext H H') {o : OV} {v : V} (h : OVRel K σ H o v) : OVRel K σ H' o v := by
  cases o with
  | v x => exact Rep.ext e h
  | s j => exact h

/-! ### constants, slots -/
def cst (x : PV) : Sk → R PV := fun S => .ok x S
def var (i : Nat) : Sk → R PV := fun S => match S[i]? with
  | some (.val x) => .ok x S
  | _ => .stuck
theorem ev_cst {e : Expr} {v : V} {x : PV} (h : PE X e (tC v)) (r : ∀ H, Rep X.K H v x) : EV X W e (cst x) :=
  ⟨PE.imp h fun σ H Q ⟨S, R, q⟩ => q v H (r H) R .refl⟩
theorem ev_int {i : Int} {j : Nat} {pos : Pos} : EV X W (.Constant (.int i) j pos) (cst (.int i)) := ev_cst pe_int fun _ => .int i
theorem ev_bl {b : Bool} {j : Nat} {pos : Pos} : EV X W (.Constant (.bool b) j pos) (cst (.bl b)) := ev_cst pe_bl fun _ => .bl b
theorem ev_non {j : Nat} {pos : Pos} : EV X W (.Constant .none j pos) (cst .non) := ev_cst pe_non fun _ => .non
theorem ev_str {x : Str} {j : Nat} {pos : Pos} : EV X W (.Constant (.str x) j pos) (cst (.str x)) := ev_cst pe_str fun _ => .str x
theorem ev_var {i : Nat} {e : Expr} (h : PE X e (tVar i)) : EV X W e (var i) := by
  refine ⟨PE.imp h fun σ H Q ⟨S, R, q⟩ => ?_⟩
  unfold var at q
  split at q
  · rename_i x hx
    obtain ⟨v, h1, h2⟩ := R.atVal hx
    exact ⟨v, h1, q v H h2 R .refl⟩
  · exact (show False from q).elim
/-- an int of the module -/
theorem ev_glob {e : Expr} {v : V} {x : PV} (h : PE X e (tC v)) (r : ∀ H, Rep X.K H v x) : EV X W e (cst x) := ev_cst h r

/-! ### operands -/
def opv (f : Sk → R PV) : Sk → R OV := fun S => (f S).bind fun x S1 => .ok (.v x) S1
def ops (j : Nat) : Sk → R OV := fun S => match S[j]? with
  | some (.own _) => .ok (.s j) S
  | some (.io _) => .ok (.s j) S
  | _ => .stuck
theorem eo_ev {e : Expr} {f : Sk → R PV} (h : EV X W e f) : EO X W e (opv f) := by
  refine ⟨PE.imp h.pe fun σ H Q ⟨S, R, q⟩ => ⟨S, R, ?_⟩⟩
  unfold opv at q
  cases hf : f S with
  | stuck => rw [hf] at q; exact q
  | ok x S1 => rw [hf] at q; exact fun v H1 r1 R1 F1 => q v H1 r1 R1 F1
  | exc x S1 => rw [hf] at q; exact q
theorem eo_slot {j : Nat} {e : Expr} (h : PE X e (tVar j)) : EO X W e (ops j) := by
  refine ⟨PE.imp h fun σ H Q ⟨S, R, q⟩ => ?_⟩
  unfold ops at q
  split at q
  · rename_i x hx
    obtain ⟨a, u, h1, h2, h3⟩ := R.atOwn hx
    exact ⟨_, h1, q _ H h1 R .refl⟩
  · rename_i x hx
    obtain ⟨a, u, h1, h2, h3⟩ := R.atIo hx
    exact ⟨_, h1, q _ H h1 R .refl⟩
  · exact (show False from q).elim
def look (S : Sk) : OV → Option PV
  | .v x => some x
  | .s j => match S[j]? with
    | some (.own x) => some x
    | some (.io x) => some x
    | _ => none
/-- a value, or an object that may change -/
def RT (K : PySem.W.Frag) (H : Hp) (v : V) (x : PV) : Prop := Rep K H v x ∨ ∃ a u, v = .ref a ∧ H a = some u ∧ RepOb K H u x
theorem look_rt (R : RelS K S σ H) {o : OV} {v : V} {x : PV} (h : OVRel K σ H o v) (e : look S o = some x) : RT K H v x := by
  cases o with
  | v y => cases e; exact .inl h
  | s j =>
    have h' : σ[j]? = some (some v) := h
    simp only [look] at e
    split at e
    · rename_i y hy
      cases e
      obtain ⟨a, u, h1, h2, h3⟩ := R.atOwn hy
      rw [h'] at h1; cases h1
      exact .inr ⟨a, u, rfl, h2, h3⟩
    · rename_i y hy
      cases e
      obtain ⟨a, u, h1, h2, h3⟩ := R.atIo hy
      rw [h'] at h1; cases h1
      exact .inr ⟨a, u, rfl, h2, h3⟩
    · cases e

/-! ### operators -/
def op1 (sem : PV → Option PV) (a : Sk → R OV) : Sk → R PV := fun S => (a S).bind fun x S1 => match look S1 x with
  | some p => (match sem p with
    | some z => .ok z S1
    | none => .stuck)
  | none => .stuck
def op2 (sem : PV → PV → Option PV) (a b : Sk → R OV) : Sk → R PV := fun S => (a S).bind fun x S1 => (b S1).bind fun y S2 => match look S2 x, look S2 y with
  | some p, some q => (match sem p q with
    | some z => .ok z S2
    | none => .stuck)
  | _, _ => .stuck
/-- what follows an operation that makes a value -/
def Out (K : PySem.W.Frag) (H : Hp) (z : PV) (Q : VK) : Prop := ∀ v H', Rep K H' v z → Same H H' → Q v H'
/-- .. a new object -/
def OutL (K : PySem.W.Frag) (H : Hp) (z : PV) (Q : VK) : Prop := ∀ p u H', H p = none → H' p = some u → RepOb K H' u z → Same H H' → Q (.ref p) H'
def Sem1 (X : Cx) (out : PySem.W.Frag → Hp → PV → VK → Prop) (r : V → Hp → VK → Prop) (sem : PV → Option PV) : Prop := ∀ (H : Hp) (x : V) (p z : PV) (Q : VK), RT X.K H x p → sem p = some z → out X.K H z Q → r x H Q
def Sem2 (X : Cx) (out : PySem.W.Frag → Hp → PV → VK → Prop) (r : R2) (sem : PV → PV → Option PV) : Prop := ∀ (H : Hp) (x y : V) (p q z : PV) (Q : VK), RT X.K H x p → RT X.K H y q → sem p q = some z → out X.K H z Q → r x y H Q

theorem post_out {r : R PV} {S S0 : Sk} {z : PV} {Q : VK} {H0 : Hp} (R : RelS K S σ H) (F : Frm S0 σ H0 S σ H) (q : PostE K mg W S0 σ H0 (.ok z S) Q) : Out K H z Q :=
  fun v H' rv s => q v H' rv (R.same s) (F.trans (Frm.same s))
theorem post_outL {r : R PV} {S S0 : Sk} {z : PV} {Q : VK} {H0 : Hp} (R : RelS K S σ H) (F : Frm S0 σ H0 S σ H) (q : PostL K mg W S0 σ H0 (.ok z S) Q) : OutL K H z Q := by
  intro p u H' n hu ru s
  have hn : ¬ Owns S σ p := R.notFree n
  refine q p u H' hu ru hn (fun o ho => ?_) (R.same s) (F.trans (Frm.same s))
  by_cases hw : Owns S0 σ p
  · exact hw
  · have := (F.keep p o ho hw).1
    rw [n] at this; cases this

theorem lift1 {f : Sk → R OV} {sem : PV → Option PV} {r : V → Hp → VK → Prop} (hs : Sem1 X Out r sem) {σ : St} {H : Hp} {Q : VK} (h : LiftE X.K X.mg W (op1 sem f) σ H Q) : LiftO X.K X.mg W f σ H fun x H1 => r x H1 Q := by
  obtain ⟨S, R0, q⟩ := h
  refine ⟨S, R0, ?_⟩
  unfold op1 at q
  cases ha : f S with
  | stuck => rw [ha] at q; exact q
  | exc x S1 => rw [ha] at q; exact q
  | ok x S1 =>
    rw [ha, R.bind_ok] at q
    intro v H1 ov R1 F1
    split at q
    · rename_i p hp
      split at q
      · rename_i z hz
        exact hs H1 v p z Q (look_rt R1 ov hp) hz (post_out (r := .stuck) R1 F1 q)
      · exact (show False from q).elim
    · exact (show False from q).elim
theorem lift1L {f : Sk → R OV} {sem : PV → Option PV} {r : V → Hp → VK → Prop} (hs : Sem1 X OutL r sem) {σ : St} {H : Hp} {Q : VK} (h : LiftL X.K X.mg W (op1 sem f) σ H Q) : LiftO X.K X.mg W f σ H fun x H1 => r x H1 Q := by
  obtain ⟨S, R0, q⟩ := h
  refine ⟨S, R0, ?_⟩
  unfold op1 at q
  cases ha : f S with
  | stuck => rw [ha] at q; exact q
  | exc x S1 => rw [ha] at q; exact q
  | ok x S1 =>
    rw [ha, R.bind_ok] at q
    intro v H1 ov R1 F1
    split at q
    · rename_i p hp
      split at q
      · rename_i z hz
        exact hs H1 v p z Q (look_rt R1 ov hp) hz (post_outL (r := .stuck) R1 F1 q)
      · exact (show False from q).elim
    · exact (show False from q).elim
theorem lift2 {f g : Sk → R OV} {sem : PV → PV → Option PV} {r : R2} (hs : Sem2 X Out r sem) {σ : St} {H : Hp} {Q : VK} (h : LiftE X.K X.mg W (op2 sem f g) σ H Q) :
    LiftO X.K X.mg W f σ H fun x H1 => LiftO X.K X.mg W g σ H1 fun y H2 => r x y H2 Q := by
  obtain ⟨S, R0, q⟩ := h
  refine ⟨S, R0, ?_⟩
  unfold op2 at q
  cases ha : f S with
  | stuck => rw [ha] at q; exact q
  | exc x S1 => rw [ha] at q; exact q
  | ok x S1 =>
    rw [ha, R.bind_ok] at q
    intro v H1 ov R1 F1
    refine ⟨S1, R1, ?_⟩
    cases hb : g S1 with
    | stuck => rw [hb] at q; exact q
    | exc y S2 => rw [hb] at q; exact fun c d H2 er R2 F2 => q c d H2 er R2 (F1.trans F2)
    | ok y S2 =>
      rw [hb, R.bind_ok] at q
      intro u H2 ou R2 F2
      split at q
      · rename_i p q' hp hq
        split at q
        · rename_i z hz
          exact hs H2 v u p q' z Q (look_rt R2 (ov.ext (R1.ext F2)) hp) (look_rt R2 ou hq) hz (post_out (r := .stuck) R2 (F1.trans F2) q)
        · exact (show False from q).elim
      · exact (show False from q).elim
theorem lift2L {f g : Sk → R OV} {sem : PV → PV → Option PV} {r : R2} (hs : Sem2 X OutL r sem) {σ : St} {H : Hp} {Q : VK} (h : LiftL X.K X.mg W (op2 sem f g) σ H Q) :
    LiftO X.K X.mg W f σ H fun x H1 => LiftO X.K X.mg W g σ H1 fun y H2 => r x y H2 Q := by
  obtain ⟨S, R0, q⟩ := h
  refine ⟨S, R0, ?_⟩
  unfold op2 at q
  cases ha : f S with
  | stuck => rw [ha] at q; exact q
  | exc x S1 => rw [ha] at q; exact q
  | ok x S1 =>
    rw [ha, R.bind_ok] at q
    intro v H1 ov R1 F1
    refine ⟨S1, R1, ?_⟩
    cases hb : g S1 with
    | stuck => rw [hb] at q; exact q
    | exc y S2 => rw [hb] at q; exact fun c d H2 er R2 F2 => q c d H2 er R2 (F1.trans F2)
    | ok y S2 =>
      rw [hb, R.bind_ok] at q
      intro u H2 ou R2 F2
      split at q
      · rename_i p q' hp hq
        split at q
        · rename_i z hz
          exact hs H2 v u p q' z Q (look_rt R2 (ov.ext (R1.ext F2)) hp) (look_rt R2 ou hq) hz (post_outL (r := .stuck) R2 (F1.trans F2) q)
        · exact (show False from q).elim
      · exact (show False from q).elim

variable {a b : Expr} {fa fb : Sk → R OV} {pos : Pos}
theorem ev_bin {op : Operator} {r : R2} {sem : PV → PV → Option PV} (ho : OpR X (binaryOp op) r) (hs : Sem2 X Out r sem) (ha : EO X W a fa) (hb : EO X W b fb) : EV X W (.BinOp a op b pos) (op2 sem fa fb) :=
  ⟨PE.imp (pe_op ho ha.pe hb.pe) fun _ _ _ h => lift2 hs h⟩
theorem el_bin {op : Operator} {r : R2} {sem : PV → PV → Option PV} (ho : OpR X (binaryOp op) r) (hs : Sem2 X OutL r sem) (ha : EO X W a fa) (hb : EO X W b fb) : EL X W (.BinOp a op b pos) (op2 sem fa fb) :=
  ⟨PE.imp (pe_op ho ha.pe hb.pe) fun _ _ _ h => lift2L hs h⟩
theorem ev_cmp {op : CmpOp} {r : R2} {sem : PV → PV → Option PV} (ho : OpR X (compareOp op) r) (hs : Sem2 X Out r sem) (ha : EO X W a fa) (hb : EO X W b fb) (hm : behindInMarks op b = false) : EV X W (.Compare a [op] [b] pos) (op2 sem fa fb) :=
  ⟨PE.imp (pe_cmpR ho ha.pe hb.pe hm) fun _ _ _ h => lift2 hs h⟩
theorem ev_un {op : UnaryOp} {r : V → Hp → VK → Prop} {sem : PV → Option PV} (ho : UnR X (unaryOp op) r) (hs : Sem1 X Out r sem) (ha : EO X W a fa) : EV X W (.UnaryOp op a pos) (op1 sem fa) :=
  ⟨PE.imp (pe_un ho ha.pe) fun _ _ _ h => lift1 hs h⟩
theorem ev_ix {r : R2} {sem : PV → PV → Option PV} (ho : IxR X r) (hs : Sem2 X Out r sem) (ha : EO X W a fa) (hb : EO X W b fb) (hi : PlainIx b) : EV X W (.Subscript a b pos) (op2 sem fa fb) :=
  ⟨PE.imp (pe_ix ho ha.pe hb.pe hi) fun _ _ _ h => lift2 hs h⟩

/-! ### tests -/
def tst (f : Sk → R PV) : Sk → R Bool := fun S => (f S).bind fun x S1 => match x with
  | .bl b => .ok b S1
  | _ => .stuck
theorem liftTst {f : Sk → R PV} {σ : St} {H : Hp} {Q : Bool → Hp → Prop} (h : LiftT K mg W (tst f) σ H Q) : LiftE K mg W f σ H fun x H1 => ∃ c, x = .bl c ∧ Q c H1 := by
  obtain ⟨S, R0, q⟩ := h
  refine ⟨S, R0, ?_⟩
  unfold tst at q
  cases ha : f S with
  | stuck => rw [ha] at q; exact q
  | exc x S1 => rw [ha] at q; exact q
  | ok x S1 =>
    rw [ha, R.bind_ok] at q
    intro v H1 rv R1 F1
    split at q
    · cases rv
      exact ⟨_, rfl, q H1 R1 F1⟩
    · exact (show False from q).elim
theorem et_val {e : Expr} {f : Sk → R PV} (h : EV X W e f) (he : ∀ whole, isTrue e X.env whole = (do let v ← whole; standAt e.pos; holding [v] (truthy v))) : ET X W e (tst f) :=
  ⟨PT.imp (pt_val h.pe he) fun _ _ _ h => liftTst h⟩
/-- a comparison as a test -/
theorem lift2T {f g : Sk → R OV} {sem : PV → PV → Option PV} {r : R2} (hs : Sem2 X Out r sem) {σ : St} {H : Hp} {Q : Bool → Hp → Prop} (h : LiftT X.K X.mg W (tst (op2 sem f g)) σ H Q) :
    tTest (tOp r (LiftO X.K X.mg W f) (LiftO X.K X.mg W g)) σ H Q := lift2 hs (liftTst h)
theorem et_cmp {op : CmpOp} {r : R2} {sem : PV → PV → Option PV} (ho : OpR X (compareOp op) r) (hs : Sem2 X Out r sem) (ha : EO X W a fa) (hb : EO X W b fb) (hm : behindInMarks op b = false) : ET X W (.Compare a [op] [b] pos) (tst (op2 sem fa fb)) :=
  ⟨PT.imp (pt_cmpR ho ha.pe hb.pe hm) fun _ _ _ h => lift2T hs h⟩
def tAndF (f g : Sk → R Bool) : Sk → R Bool := fun S => (f S).bind fun b S1 => if b = true then g S1 else .ok false S1
def tOrF (f g : Sk → R Bool) : Sk → R Bool := fun S => (f S).bind fun b S1 => if b = true then .ok true S1 else g S1
def tNotF (f : Sk → R Bool) : Sk → R Bool := fun S => (f S).bind fun b S1 => .ok (!b) S1
theorem liftBindT {α : Type} {f : Sk → R Bool} {g : Bool → Sk → R Bool} {σ : St} {H : Hp} {Q : Bool → Hp → Prop} (h : LiftT K mg W (fun S => (f S).bind g) σ H Q) :
    LiftT K mg W f σ H fun b H1 => LiftT K mg W (g b) σ H1 Q := by
  obtain ⟨S, R0, q⟩ := h
  refine ⟨S, R0, ?_⟩
  have q' : PostT K mg W S σ H ((f S).bind g) Q := q
  cases ha : f S with
  | stuck => rw [ha] at q'; exact q'
  | exc x S1 => rw [ha] at q'; exact q'
  | ok x S1 =>
    rw [ha, R.bind_ok] at q'
    intro H1 R1 F1
    refine ⟨S1, R1, ?_⟩
    cases hb : g x S1 with
    | stuck => rw [hb] at q'; exact q'
    | exc y S2 => rw [hb] at q'; exact fun c d H2 er R2 F2 => q' c d H2 er R2 (F1.trans F2)
    | ok y S2 => rw [hb] at q'; exact fun H2 R2 F2 => q' H2 R2 (F1.trans F2)
theorem liftOkT {b : Bool} {σ : St} {H : Hp} {Q : Bool → Hp → Prop} (h : LiftT K mg W (fun S => .ok b S) σ H Q) : Q b H := by
  obtain ⟨S, R0, q⟩ := h
  exact q H R0 .refl
/-- a test whatever its whole is -/
structure EW (X : Cx) (W : WX) (e : Expr) (f : Sk → R Bool) : Prop where
  pw : PW X e (LiftT X.K X.mg W f)
theorem EW.et {e : Expr} {f : Sk → R Bool} (h : EW X W e f) : ET X W e f := ⟨h.pw.pt⟩
theorem PW.imp {e : Expr} {t t' : TT} (h : PW X e t) (i : ∀ σ H Q, t' σ H Q → t σ H Q) : PW X e t' := ⟨fun wh pins s σ H Q I q => h.run wh pins s σ H Q I (i σ H Q q)⟩
variable {rest : List Expr} {ga gb : Sk → R Bool}
theorem ew_and1 (ha : ET X W a ga) : EW X W (.BoolOp .And [a] pos) ga := ⟨pw_and1 ha.pt⟩
theorem ew_or1 (ha : ET X W a ga) : EW X W (.BoolOp .Or [a] pos) ga := ⟨pw_or1 ha.pt⟩
theorem ew_and (ha : ET X W a ga) (hb : EW X W (.BoolOp .And (b :: rest) pos) gb) : EW X W (.BoolOp .And (a :: b :: rest) pos) (tAndF ga gb) :=
  ⟨PW.imp (pw_and ha.pt hb.pw) fun σ H Q h => by
    have h1 := liftBindT (α := Bool) (f := ga) (g := fun b S1 => if b = true then gb S1 else .ok false S1) h
    obtain ⟨S, R0, q⟩ := h1
    refine ⟨S, R0, ?_⟩
    cases ha : ga S with
    | stuck => rw [ha] at q; exact q
    | exc x S1 => rw [ha] at q; exact q
    | ok x S1 =>
      rw [ha] at q
      intro H1 R1 F1
      have z := q H1 R1 F1
      cases x with
      | true => exact z
      | false => exact liftOkT z⟩
theorem ew_or (ha : ET X W a ga) (hb : EW X W (.BoolOp .Or (b :: rest) pos) gb) : EW X W (.BoolOp .Or (a :: b :: rest) pos) (tOrF ga gb) :=
  ⟨PW.imp (pw_or ha.pt hb.pw) fun σ H Q h => by
    have h1 := liftBindT (α := Bool) (f := ga) (g := fun b S1 => if b = true then .ok true S1 else gb S1) h
    obtain ⟨S, R0, q⟩ := h1
    refine ⟨S, R0, ?_⟩
    cases ha : ga S with
    | stuck => rw [ha] at q; exact q
    | exc x S1 => rw [ha] at q; exact q
    | ok x S1 =>
      rw [ha] at q
      intro H1 R1 F1
      have z := q H1 R1 F1
      cases x with
      | false => exact z
      | true => exact liftOkT z⟩
theorem et_not (ha : ET X W a ga) : ET X W (.UnaryOp .Not a pos) (tNotF ga) :=
  ⟨PT.imp (pt_not ha.pt) fun σ H Q h => by
    have h1 := liftBindT (α := Bool) (f := ga) (g := fun b S1 => .ok (!b) S1) h
    obtain ⟨S, R0, q⟩ := h1
    refine ⟨S, R0, ?_⟩
    cases ha : ga S with
    | stuck => rw [ha] at q; exact q
    | exc x S1 => rw [ha] at q; exact q
    | ok x S1 =>
      rw [ha] at q
      exact fun H1 R1 F1 => liftOkT (q H1 R1 F1)⟩

/-! ### and, or, not, if as values -/
theorem liftBindE {f : Sk → R PV} {g : PV → Sk → R PV} {σ : St} {H : Hp} {Q : VK} (h : LiftE K mg W (fun S => (f S).bind g) σ H Q) :
    ∃ S, RelS K S σ H ∧ match f S with
      | .stuck => False
      | .ok x S1 => ∀ v H1, Rep K H1 v x → RelS K S1 σ H1 → Frm S σ H S1 σ H1 → LiftE K mg W (g x) σ H1 Q
      | .exc e S1 => ∀ cls d H1, ExnRep K mg H1 cls d e → RelS K S1 σ H1 → Frm S σ H S1 σ H1 → W cls d σ H1 := by
  obtain ⟨S, R0, q⟩ := h
  refine ⟨S, R0, ?_⟩
  have q' : PostE K mg W S σ H ((f S).bind g) Q := q
  cases ha : f S with
  | stuck => rw [ha] at q'; exact q'
  | exc x S1 => rw [ha] at q'; exact q'
  | ok x S1 =>
    rw [ha, R.bind_ok] at q'
    intro v H1 rv R1 F1
    refine ⟨S1, R1, ?_⟩
    cases hb : g x S1 with
    | stuck => rw [hb] at q'; exact q'
    | exc y S2 => rw [hb] at q'; exact fun c d H2 er R2 F2 => q' c d H2 er R2 (F1.trans F2)
    | ok y S2 => rw [hb] at q'; exact fun u H2 ru R2 F2 => q' u H2 ru R2 (F1.trans F2)
theorem liftOkE {x : PV} {v : V} {σ : St} {H : Hp} {Q : VK} (h : LiftE K mg W (fun S => .ok x S) σ H Q) (r : Rep K H v x) : Q v H := by
  obtain ⟨S, R0, q⟩ := h
  exact q v H r R0 .refl
def vAndF (f g : Sk → R PV) : Sk → R PV := fun S => (f S).bind fun x S1 => match x with
  | .bl true => g S1
  | .bl false => .ok (.bl false) S1
  | _ => .stuck
def vOrF (f g : Sk → R PV) : Sk → R PV := fun S => (f S).bind fun x S1 => match x with
  | .bl true => .ok (.bl true) S1
  | .bl false => g S1
  | _ => .stuck
def vNotF (f : Sk → R PV) : Sk → R PV := fun S => (f S).bind fun x S1 => match x with
  | .bl b => .ok (.bl (!b)) S1
  | _ => .stuck
variable {va vb : Sk → R PV}
theorem lift_stuck {σ : St} {H : Hp} {Q : VK} (h : LiftE K mg W (fun _ => .stuck) σ H Q) : False := by
  obtain ⟨S, R0, q⟩ := h
  exact q
theorem ev_one {op : BoolOp} (h : EV X W a va) : EV X W (.BoolOp op [a] pos) va := ⟨pe_one h.pe⟩
theorem ev_and (ha : EV X W a va) (hb : EV X W (.BoolOp .And (b :: rest) pos) vb) : EV X W (.BoolOp .And (a :: b :: rest) pos) (vAndF va vb) :=
  ⟨PE.imp (pe_and ha.pe hb.pe) fun σ H Q h => by
    obtain ⟨S, R0, q⟩ := liftBindE h
    refine ⟨S, R0, ?_⟩
    cases ha : va S with
    | stuck => rw [ha] at q; exact q
    | exc x S1 => rw [ha] at q; exact q
    | ok x S1 =>
      rw [ha] at q
      intro v H1 rv R1 F1
      have z := q v H1 rv R1 F1
      cases x <;> first | exact (lift_stuck z).elim | skip
      rename_i c
      cases rv
      refine ⟨c, rfl, ?_⟩
      cases c with
      | true => exact z
      | false => exact liftOkE z (.bl false)⟩
theorem ev_or (ha : EV X W a va) (hb : EV X W (.BoolOp .Or (b :: rest) pos) vb) : EV X W (.BoolOp .Or (a :: b :: rest) pos) (vOrF va vb) :=
  ⟨PE.imp (pe_or ha.pe hb.pe) fun σ H Q h => by
    obtain ⟨S, R0, q⟩ := liftBindE h
    refine ⟨S, R0, ?_⟩
    cases ha : va S with
    | stuck => rw [ha] at q; exact q
    | exc x S1 => rw [ha] at q; exact q
    | ok x S1 =>
      rw [ha] at q
      intro v H1 rv R1 F1
      have z := q v H1 rv R1 F1
      cases x <;> first | exact (lift_stuck z).elim | skip
      rename_i c
      cases rv
      refine ⟨c, rfl, ?_⟩
      cases c with
      | false => exact z
      | true => exact liftOkE z (.bl true)⟩
theorem ev_not (ha : EV X W a va) : EV X W (.UnaryOp .Not a pos) (vNotF va) :=
  ⟨PE.imp (pe_not ha.pe) fun σ H Q h => by
    obtain ⟨S, R0, q⟩ := liftBindE h
    refine ⟨S, R0, ?_⟩
    cases ha : va S with
    | stuck => rw [ha] at q; exact q
    | exc x S1 => rw [ha] at q; exact q
    | ok x S1 =>
      rw [ha] at q
      intro v H1 rv R1 F1
      have z := q v H1 rv R1 F1
      cases x <;> first | exact (lift_stuck z).elim | skip
      rename_i c
      cases rv
      exact ⟨c, rfl, liftOkE z (.bl (!c))⟩⟩
def ifF (c : Sk → R Bool) (f g : Sk → R PV) : Sk → R PV := fun S => (c S).bind fun b S1 => if b = true then f S1 else g S1
theorem ev_if {c : Expr} {gc : Sk → R Bool} (hc : ET X W c gc) (ha : EV X W a va) (hb : EV X W b vb) : EV X W (.IfExp c a b pos) (ifF gc va vb) :=
  ⟨PE.imp (pe_ifExp hc.pt ha.pe hb.pe) fun σ H Q ⟨S, R0, q⟩ => by
    refine ⟨S, R0, ?_⟩
    unfold ifF at q
    cases hc : gc S with
    | stuck => rw [hc] at q; exact q
    | exc x S1 => rw [hc] at q; exact q
    | ok x S1 =>
      rw [hc, R.bind_ok] at q
      intro H1 R1 F1
      have go : ∀ {r : R PV}, PostE X.K X.mg W S σ H r Q → PostE X.K X.mg W S1 σ H1 r Q := fun {r} z => by
        cases r with
        | stuck => exact z
        | exc y S2 => exact fun c d H2 er R2 F2 => z c d H2 er R2 (F1.trans F2)
        | ok y S2 => exact fun u H2 ru R2 F2 => z u H2 ru R2 (F1.trans F2)
      cases x with
      | true => exact ⟨S1, R1, go q⟩
      | false => exact ⟨S1, R1, go q⟩⟩

/-! ### a new object is given out for good -/
/-- an object that nobody writes any more -/
theorem freeze_inv {pins : List (Addr × Obj)} {σ : St} {H : Hp} {s : Shared} {p : Addr} {u : HO} {x : PV} (I : Inv X pins σ H s) (hu : H p = some u) (r : RepOb X.K H u x) : ∃ o, Inv X pins σ (upd H p (.frz o u)) s :=
  I.lock hu r.mut
theorem freeze_ext {S : Sk} (R : RelS K S σ H) {p : Addr} {u : HO} {x : PV} {o : Obj} (hu : H p = some u) (r : RepOb K H u x) : Ext H (upd H p (.frz o u)) :=
  ⟨fun a xs h => by rw [upd_ne (ne_of h hu (by intro e; exact r.notTup xs e.symm))]; exact h, fun a o' w h => by rw [upd_ne (ne_of h hu (by intro e; exact r.notFrz o' w e.symm))]; exact h⟩
theorem RelS.freeze {S : Sk} (R : RelS K S σ H) {p : Addr} {u : HO} {x : PV} {o : Obj} (hu : H p = some u) (r : RepOb K H u x) (hn : ¬ Owns S σ p) : RelS K S σ (upd H p (.frz o u)) := by
  have e := freeze_ext (o := o) R hu r
  have ne : ∀ (i : Nat) (s : Sl) (a : Addr), S[i]? = some s → ownd s = true → σ[i]? = some (some (V.ref a)) → a ≠ p := fun i s a h1 h2 h3 z => hn ⟨i, s, h1, h2, by rw [← z]; exact h3⟩
  refine ⟨R.len, fun i sl h => ?_, R.dj⟩
  have q := R.sl i sl h
  cases sl with
  | no => trivial
  | hid => trivial
  | val y =>
    obtain ⟨v, h1, h2⟩ := R.atVal h
    exact ⟨v, h1, h2.ext e⟩
  | own y =>
    obtain ⟨a, w, h1, h2, h3⟩ := R.atOwn h
    exact ⟨a, w, h1, by rw [upd_ne (ne i _ a h rfl h1)]; exact h2, h3.ext e⟩
  | io y =>
    obtain ⟨a, w, h1, h2, h3⟩ := R.atIo h
    exact ⟨a, w, h1, by rw [upd_ne (ne i _ a h rfl h1)]; exact h2, h3.ext e⟩
theorem ev_fz {e : Expr} {f : Sk → R PV} (h : EL X W e f) : EV X W e f := by
  refine ⟨⟨fun pins s σ H Q I ⟨S, R0, q⟩ => ?_⟩⟩
  have hL : LiftL X.K X.mg W f σ H fun v H1 => ∃ p u x S', v = .ref p ∧ H1 p = some u ∧ RepOb X.K H1 u x ∧ f S = .ok x S' ∧ ¬ Owns S' σ p ∧ (∀ o, H p = some o → Owns S σ p) ∧ RelS X.K S' σ H1 ∧ Frm S σ H S' σ H1 := by
    refine ⟨S, R0, ?_⟩
    cases hf : f S with
    | stuck => rw [hf] at q; exact q
    | exc y S1 => rw [hf] at q; exact q
    | ok x S1 => exact fun p u H1 h1 h2 h3 h4 h5 h6 => ⟨p, u, x, S1, rfl, h1, h2, rfl, h3, h4, h5, h6⟩
  refine thn (h.pe.run pins s σ H _ I hL) fun w s1 ⟨v, H1, I1, rv, p, u, x, S', ev, hu, ru, hf, hn, hw, R1, F1⟩ => ?_
  subst ev
  obtain ⟨o, I2⟩ := freeze_inv I1 hu ru
  have ex := freeze_ext (o := o) R1 hu ru
  rw [hf] at q
  refine ⟨.ref p, _, I2, rv, q _ _ ((ru.ext ex).frz upd_same) (R1.freeze hu ru hn) ⟨fun a ob ha na => ?_, F1.io⟩⟩
  have z := F1.keep a ob ha na
  refine ⟨?_, z.2⟩
  rw [upd_ne (fun e => ?_)]
  · exact z.1
  · subst e
    exact na (hw ob ha)
end
end VL

set_option Elab.async false
set_option linter.all false
set_option autoImplicit false
set_option maxRecDepth 100000
set_option maxHeartbeats 4000000
/-! VL2: the operators and built-ins by what they do to values. -/
namespace VL
open PySem L2

section
variable {K : PySem.W.Frag} {H : Hp} {v : V}
theorem ro_none {u : HO} {x : PV} (h : RepOb K H u x) : (∃ xs, x = .lst xs) ∨ (∃ xs, x = .dk xs) ∨ ∃ xs, x = .dt xs := by
  cases u <;> cases x <;> first | exact (show False from h).elim | exact .inl ⟨_, rfl⟩ | exact .inr (.inl ⟨_, rfl⟩) | exact .inr (.inr ⟨_, rfl⟩)
theorem RT.non (h : RT K H v .non) : v = .non := by
  rcases h with h | ⟨_, u, _, _, h⟩
  · cases h; rfl
  · cases u <;> exact (show False from h).elim
theorem RT.bl {b : Bool} (h : RT K H v (.bl b)) : v = .bl b := by
  rcases h with h | ⟨_, u, _, _, h⟩
  · cases h; rfl
  · cases u <;> exact (show False from h).elim
theorem RT.int {i : Int} (h : RT K H v (.int i)) : v = .int i := by
  rcases h with h | ⟨_, u, _, _, h⟩
  · cases h; rfl
  · cases u <;> exact (show False from h).elim
theorem RT.str {x : Str} (h : RT K H v (.str x)) : v = .str x := by
  rcases h with h | ⟨_, u, _, _, h⟩
  · cases h; rfl
  · cases u <;> exact (show False from h).elim
theorem RT.tup {xs : List PV} (h : RT K H v (.tup xs)) : ∃ a vs, v = .ref a ∧ H a = some (.tup vs) ∧ RepA K H vs xs := by
  rcases h with h | ⟨_, u, _, _, h⟩
  · cases h with
    | tup h1 h2 => exact ⟨_, _, rfl, h1, h2⟩
  · cases u <;> exact (show False from h).elim
theorem RT.lstR {xs : List PV} (h : RT K H v (.lst xs)) : ∃ a vs, v = .ref a ∧ Rd H a (.lst vs) ∧ RepA K H vs xs := by
  rcases h with h | ⟨a, u, rfl, e, h⟩
  · cases h with
    | lst h1 h2 => exact ⟨_, _, rfl, .inr ⟨_, h1⟩, h2⟩
  · cases u <;> first | exact (show False from h).elim | exact ⟨_, _, rfl, .inl e, h⟩
theorem RT.lst {xs : List PV} (h : RT K H v (.lst xs)) : ∃ a vs, v = .ref a ∧ SqL K H a vs ∧ RepA K H vs xs := by
  obtain ⟨a, vs, e, r, h⟩ := h.lstR
  exact ⟨a, vs, e, .inl r, h⟩
theorem RT.scr {ns : List Int} (h : RT K H v (.scr ns)) : ∃ a, v = .ref a ∧ FzL K H a (ns.map V.int) := by
  rcases h with h | ⟨_, u, _, _, h⟩
  · cases h with
    | scr h1 => exact ⟨_, rfl, h1⟩
  · cases u <;> exact (show False from h).elim
theorem RT.dk {kvs : List (Key × PV)} (h : RT K H v (.dk kvs)) : ∃ a ws, v = .ref a ∧ Rd H a (.dK ws) ∧ RepK K H ws kvs := by
  rcases h with h | ⟨a, u, rfl, e, h⟩
  · cases h with
    | dk h1 h2 => exact ⟨_, _, rfl, .inr ⟨_, h1⟩, h2⟩
  · cases u <;> first | exact (show False from h).elim | exact ⟨_, _, rfl, .inl e, h⟩
theorem RT.dt {kvs : List (List Key × PV)} (h : RT K H v (.dt kvs)) : ∃ a ws, v = .ref a ∧ Rd H a (.dT ws) ∧ RepT K H ws kvs := by
  rcases h with h | ⟨a, u, rfl, e, h⟩
  · cases h with
    | dt h1 h2 => exact ⟨_, _, rfl, .inr ⟨_, h1⟩, h2⟩
  · cases u <;> first | exact (show False from h).elim | exact ⟨_, _, rfl, .inl e, h⟩
end

/-! ### as plain data -/
mutual
def toPD : PV → PyData
  | .non => .none
  | .bl b => .bool b
  | .int i => .int i
  | .str x => .str x
  | .tup xs => .tuple (toPDs xs)
  | .lst xs => .list (toPDs xs)
  | .dk _ => .dict []
  | .dt _ => .dict []
  | .scr ns => .list (ns.map .int)
def toPDs : List PV → List PyData
  | [] => []
  | x :: xs => toPD x :: toPDs xs
end
theorem toPDs_map (xs : List PV) : toPDs xs = xs.map toPD := by
  induction xs with
  | nil => rfl
  | cons x xs ih => rw [toPDs, ih, List.map_cons]
section
variable {K : PySem.W.Frag} {H : Hp}
theorem dp_ints : ∀ ns : List Int, DpAll K H (ns.map V.int) (ns.map PyData.int)
  | [] => .nil
  | n :: ns => .cons (.int n) (dp_ints ns)
mutual
theorem Rep.dp : ∀ {v : V} {x : PV}, Rep K H v x → (toPD x).canLay0 = true → Dp K H v (toPD x)
  | _, _, .non, _ => .non
  | _, _, .bl b, _ => .bl b
  | _, _, .int i, _ => .int i
  | _, _, .str x, _ => .str x
  | _, .tup xs, .tup h r, c => .tup (SqT.of h) (RepA.dp r (by simpa [toPD, PyData.canLay0] using c))
  | _, .lst xs, .lst h r, c => .lst (.inl (.inr ⟨_, h⟩)) (RepA.dp r (by simpa [toPD, PyData.canLay0] using c))
  | _, .scr ns, .scr h, c => .lst h.sq (dp_ints ns)
  | _, .dk _, .dk h r, c => by simp [toPD, PyData.canLay0] at c
  | _, .dt _, .dt h r, c => by simp [toPD, PyData.canLay0] at c
theorem RepA.dp : ∀ {vs : List V} {xs : List PV}, RepA K H vs xs → PyData.canLayAll0 (toPDs xs) = true → DpAll K H vs (toPDs xs)
  | _, _, .nil, _ => .nil
  | _, x :: xs, .cons r rs, c => by
    have c' : (toPD x).canLay0 = true ∧ PyData.canLayAll0 (toPDs xs) = true := by simpa [toPDs, PyData.canLayAll0] using c
    exact .cons (Rep.dp r c'.1) (RepA.dp rs c'.2)
end
theorem RT.dp {v : V} {x : PV} (h : RT K H v x) (c : (toPD x).canLay0 = true) : Dp K H v (toPD x) := by
  rcases h with h | ⟨a, u, rfl, e, h⟩
  · exact h.dp c
  · cases u <;> cases x <;> first | exact (show False from h).elim | skip
    · exact .lst (SqL.of e) (RepA.dp h (by simpa [toPD, PyData.canLay0] using c))
    · simp [toPD, PyData.canLay0] at c
    · simp [toPD, PyData.canLay0] at c
end
/-- may be compared by == as data -/
def pOk (x : PV) : Bool := SeqAt.shaped (toPD x)
def pEqv (x y : PV) : Bool := PyData.eqv (toPD x) (toPD y)
theorem pOk_lay {x : PV} (h : pOk x = true) : (toPD x).canLay0 = true := SeqAt.canLay_of_shaped h
theorem pOk_depth {x : PV} (h : pOk x = true) : (toPD x).depth ≤ 64 := SeqAt.depth_of_shaped h

def sEq : PV → PV → Option PV := fun x y => if pOk x = true ∧ pOk y = true then some (.bl (pEqv x y)) else none
def sNe : PV → PV → Option PV := fun x y => if pOk x = true ∧ pOk y = true then some (.bl (!pEqv x y)) else none
section
variable {X : Cx}
theorem s_eq : Sem2 X Out (rEqD X.K) sEq := by
  intro H x y p q z Q hx hy e o
  unfold sEq at e
  split at e
  · rename_i h
    cases e
    exact ⟨_, _, hx.dp (pOk_lay h.1), hy.dp (pOk_lay h.2), h.1, h.2, o _ H (.bl _) (Same.refl H)⟩
  · cases e
theorem s_ne : Sem2 X Out (rNeD X.K) sNe := by
  intro H x y p q z Q hx hy e o
  unfold sNe at e
  split at e
  · rename_i h
    cases e
    exact ⟨_, _, hx.dp (pOk_lay h.1), hy.dp (pOk_lay h.2), h.1, h.2, o _ H (.bl _) (Same.refl H)⟩
  · cases e

/-! ### in, not in -/
def rInS (K : PySem.W.Frag) (neg : Bool) : R2 := fun x y H Q => ∃ d ds, Dp K H x d ∧ (Dp K H y (.list ds) ∨ Dp K H y (.tuple ds)) ∧ SeqAt.shaped d = true ∧ PyData.canLayAll0 ds = true ∧
  Q (.bl (if neg then !ds.any fun z => PyData.eqv z d else ds.any fun z => PyData.eqv z d)) H
theorem room_in {A : Around} {d : PyData} {ds : List PyData} (h : SeqAt.shaped d = true) (hu : A.units + 65 < cLine) : A.units + 1 + min (PyData.depthAll ds) d.depth < cLine := by
  have h1 := SeqAt.depth_of_shaped h
  have h2 : min (PyData.depthAll ds) d.depth ≤ d.depth := Nat.min_le_right _ _
  omega
theorem op_inS (hu : X.A.units + 65 < cLine) : OpR X (compareOp .In) (rInS X.K false) := by
  intro pins s σ H x y v u Q I rx ry h
  obtain ⟨d, ds, hd, he, sd, se, q⟩ := h
  obtain ⟨as, r1⟩ := Dp.reads I d x v hd rx
  rcases he with he | he
  · obtain ⟨bs, r2⟩ := Dp.reads I (.list ds) y u he ry
    exact SeqAt.in_list_reads r2 r1 se (SeqAt.canLay_of_shaped sd) (room_in sd hu) ⟨.bl _, H, I, rfl, q⟩
  · obtain ⟨bs, r2⟩ := Dp.reads I (.tuple ds) y u he ry
    exact SeqAt.in_tuple_reads r2 r1 se (SeqAt.canLay_of_shaped sd) (room_in sd hu) ⟨.bl _, H, I, rfl, q⟩
theorem op_notInS (hu : X.A.units + 65 < cLine) : OpR X (compareOp .NotIn) (rInS X.K true) := by
  intro pins s σ H x y v u Q I rx ry h
  obtain ⟨d, ds, hd, he, sd, se, q⟩ := h
  obtain ⟨as, r1⟩ := Dp.reads I d x v hd rx
  rcases he with he | he
  · obtain ⟨bs, r2⟩ := Dp.reads I (.list ds) y u he ry
    exact SeqAt.notIn_list_reads r2 r1 se (SeqAt.canLay_of_shaped sd) (room_in sd hu) ⟨.bl _, H, I, rfl, q⟩
  · obtain ⟨bs, r2⟩ := Dp.reads I (.tuple ds) y u he ry
    exact SeqAt.notIn_tuple_reads r2 r1 se (SeqAt.canLay_of_shaped sd) (room_in sd hu) ⟨.bl _, H, I, rfl, q⟩
/-- the items of a list, a tuple -/
def itemsOf : PV → Option (List PV)
  | .tup xs => some xs
  | .lst xs => some xs
  | _ => none
def pAny (x : PV) (xs : List PV) : Bool := xs.any fun z => pEqv z x
def sIn (neg : Bool) : PV → PV → Option PV := fun x y => match y with
  | .tup xs => if pOk x = true ∧ PyData.canLayAll0 (toPDs xs) = true then some (.bl (if neg then !pAny x xs else pAny x xs)) else none
  | .lst xs => if pOk x = true ∧ PyData.canLayAll0 (toPDs xs) = true then some (.bl (if neg then !pAny x xs else pAny x xs)) else none
  | _ => none
theorem pAny_pd (x : PV) (xs : List PV) : ((toPDs xs).any fun z => PyData.eqv z (toPD x)) = pAny x xs := by
  rw [toPDs_map, List.any_map]
  rfl
theorem s_in (neg : Bool) : Sem2 X Out (rInS X.K neg) (sIn neg) := by
  intro H x y p q z Q hx hy e o
  unfold sIn at e
  split at e
  · split at e
    · rename_i xs h
      cases e
      refine ⟨_, _, hx.dp (pOk_lay h.1), .inr (hy.dp (x := .tup xs) (by simpa [toPD, PyData.canLay0] using h.2)), h.1, h.2, ?_⟩
      rw [pAny_pd]
      exact o _ H (.bl _) (Same.refl H)
    · cases e
  · split at e
    · rename_i xs h
      cases e
      refine ⟨_, _, hx.dp (pOk_lay h.1), .inl (hy.dp (x := .lst xs) (by simpa [toPD, PyData.canLay0] using h.2)), h.1, h.2, ?_⟩
      rw [pAny_pd]
      exact o _ H (.bl _) (Same.refl H)
    · cases e
  · cases e
/-! ### is None -/
def isNon : PV → Bool
  | .non => true
  | _ => false
def sIs (neg : Bool) : PV → PV → Option PV := fun x y => match y with
  | .non => some (.bl (if neg then !isNon x else isNon x))
  | _ => none
theorem isNon_dec {K : PySem.W.Frag} {H : Hp} {v : V} {x : PV} (h : RT K H v x) : decide (v = .non) = isNon x := by
  cases x with
  | non => rw [h.non]; rfl
  | bl b => rw [h.bl]; rfl
  | int i => rw [h.int]; rfl
  | str i => rw [h.str]; rfl
  | tup xs => obtain ⟨a, vs, rfl, _⟩ := h.tup; rfl
  | lst xs => obtain ⟨a, vs, rfl, _⟩ := h.lst; rfl
  | dk xs => obtain ⟨a, vs, rfl, _⟩ := h.dk; rfl
  | dt xs => obtain ⟨a, vs, rfl, _⟩ := h.dt; rfl
  | scr xs => obtain ⟨a, rfl, _⟩ := h.scr; rfl
theorem s_is : Sem2 X Out (fun x y H Q => y = .non ∧ Q (.bl (decide (x = .non))) H) (sIs false) := by
  intro H x y p q z Q hx hy e o
  unfold sIs at e
  split at e
  · cases e
    refine ⟨hy.non, ?_⟩
    rw [isNon_dec hx]
    exact o _ H (.bl _) (Same.refl H)
  · cases e
theorem s_isnot : Sem2 X Out (fun x y H Q => y = .non ∧ Q (.bl (!decide (x = .non))) H) (sIs true) := by
  intro H x y p q z Q hx hy e o
  unfold sIs at e
  split at e
  · cases e
    refine ⟨hy.non, ?_⟩
    rw [isNon_dec hx]
    exact o _ H (.bl _) (Same.refl H)
  · cases e

/-! ### numbers -/
def sInt (C : Int → Int → Bool) (g : Int → Int → Int) : PV → PV → Option PV := fun x y => match x, y with
  | .int i, .int j => if C i j = true then some (.int (g i j)) else none
  | _, _ => none
theorem s_int {C : Int → Int → Prop} {D : Int → Int → Bool} {g : Int → Int → Int} (hC : ∀ i j, D i j = true → C i j) : Sem2 X Out (rI C fun i j => .int (g i j)) (sInt D g) := by
  intro H x y p q z Q hx hy e o
  unfold sInt at e
  split at e
  · split at e
    · rename_i i j h
      cases e
      exact ⟨i, j, hx.int, hy.int, hC i j h, o _ H (.int _) (Same.refl H)⟩
    · cases e
  · cases e
def yes2 : Int → Int → Bool := fun _ _ => true
theorem s_int0 {g : Int → Int → Int} : Sem2 X Out (rI0 fun i j => .int (g i j)) (sInt yes2 g) := by
  intro H x y p q z Q hx hy e o
  unfold sInt at e
  split at e
  · rename_i i j
    rw [if_pos (show yes2 i j = true from rfl)] at e
    cases e
    exact ⟨i, j, hx.int, hy.int, o _ H (.int _) (Same.refl H)⟩
  · cases e
def dMod (i j : Int) : Bool := decide (0 < j)
def sSub := sInt yes2 fun i j => i - j
def sMod := sInt dMod fun i j => i % j
def dDiv (i j : Int) : Bool := decide (0 < j ∧ j.natAbs.log2 < 9000)
def sDiv := sInt dDiv fun i j => i / j
def dMul (i j : Int) : Bool := decide ((-(2 ^ 64) < i ∧ i < 2 ^ 64) ∨ (-(2 ^ 64) < j ∧ j < 2 ^ 64) ∨ i.natAbs.log2 + j.natAbs.log2 < 1000000)
theorem op_mulA : OpR X (binaryOp .Mult) (rI (fun i j => dMul i j = true) fun i j => .int (i * j)) := opI fun i j t u s Q E hc q => by
  unfold dMul at hc
  have hc := of_decide_eq_true hc
  rcases hc with h | h | h
  · exact PyProof.Rows.mul_int q (CMul.ok (.inl h))
  · exact PyProof.Rows.mul_int q (CMul.ok (.inr h))
  · exact PyProof.Rows.mul_int q (CMulW.ok h)
def sMulI := sInt dMul fun i j => i * j
def dPow (i j : Int) : Bool := decide (0 ≤ j ∧ j ≤ 1000000 ∧ i.natAbs < 2 ^ 64)
def sPow := sInt dPow fun i j => i ^ j.toNat
def sShl := sInt dPow fun i j => i * 2 ^ j.toNat
def dShr (i j : Int) : Bool := decide (0 ≤ j)
def sShr := sInt dShr fun i j => i / 2 ^ j.toNat
def sBAnd := sInt yes2 Builtin.bitAnd
def sBOr := sInt yes2 Builtin.bitOr
def sBXor := sInt yes2 Builtin.bitXor
theorem s_sub : Sem2 X Out (rI0 fun i j => .int (i - j)) sSub := s_int0
theorem s_mod : Sem2 X Out (rI (fun _ j => 0 < j) fun i j => .int (i % j)) sMod := s_int fun i j h => of_decide_eq_true h
theorem s_div : Sem2 X Out (rI CDivW fun i j => .int (i / j)) sDiv := s_int fun i j h => (of_decide_eq_true h : 0 < j ∧ j.natAbs.log2 < 9000)
theorem s_pow : Sem2 X Out (rI CPow fun i j => .int (i ^ j.toNat)) sPow := s_int fun i j h => (of_decide_eq_true h : 0 ≤ j ∧ j ≤ 1000000 ∧ i.natAbs < 2 ^ 64)
theorem s_shl : Sem2 X Out (rI CPow fun i j => .int (i * 2 ^ j.toNat)) sShl := s_int fun i j h => (of_decide_eq_true h : 0 ≤ j ∧ j ≤ 1000000 ∧ i.natAbs < 2 ^ 64)
theorem s_shr : Sem2 X Out (rI (fun _ j => 0 ≤ j) fun i j => .int (i / 2 ^ j.toNat)) sShr := s_int fun i j h => of_decide_eq_true h
theorem s_band : Sem2 X Out (rI0 fun i j => .int (Builtin.bitAnd i j)) sBAnd := s_int0
theorem s_bor : Sem2 X Out (rI0 fun i j => .int (Builtin.bitOr i j)) sBOr := s_int0
theorem s_bxor : Sem2 X Out (rI0 fun i j => .int (Builtin.bitXor i j)) sBXor := s_int0
def sNeg : PV → Option PV
  | .int i => some (.int (-i))
  | _ => none
theorem s_neg : Sem1 X Out (rU fun i => .int (-i)) sNeg := by
  intro H x p z Q hx e o
  cases p <;> first | (cases e; done) | skip
  cases e
  exact ⟨_, hx.int, o _ H (.int _) (Same.refl H)⟩

/-! ### + and * -/
def sAdd : PV → PV → Option PV
  | .int i, .int j => some (.int (i + j))
  | .str x, .str y => if x.length + y.length ≤ 16777216 then some (.str (x ++ y)) else none
  | .tup xs, .tup ys => if xs.length + ys.length ≤ 16777216 then some (.tup (xs ++ ys)) else none
  | _, _ => none
abbrev rAddA (X : Cx) : R2 := fun x y H Q => (rI0 fun i j => .int (i + j)) x y H Q ∨ (rCatA X.K x y H Q ∨ (∃ i j, x = .str i ∧ y = .str j ∧ i.length + j.length ≤ sizeLine ∧ Q (.str (i ++ j)) H))
theorem op_addA : OpR X (binaryOp .Add) (rAddA X) := op_add.or (op_catA.or op_add_str)
theorem s_add : Sem2 X Out (rAddA X) sAdd := by
  intro H x y p q z Q hx hy e o
  unfold sAdd at e
  split at e
  · cases e
    exact .inl ⟨_, _, hx.int, hy.int, o _ H (.int _) (Same.refl H)⟩
  · split at e
    · rename_i h
      cases e
      exact .inr (.inr ⟨_, _, hx.str, hy.str, by rw [sizeLine_eq]; exact h, o _ H (.str _) (Same.refl H)⟩)
    · cases e
  · split at e
    · rename_i xs ys h
      cases e
      obtain ⟨a, vs, rfl, h1, r1⟩ := hx.tup
      obtain ⟨b, ws, rfl, h2, r2⟩ := hy.tup
      refine .inr (.inl ⟨a, b, vs, ws, rfl, rfl, SqT.of h1, SqT.of h2, by rw [sizeLine_eq, r1.length, r2.length]; exact h, fun e => ?_, fun _ e => ?_, fun _ _ t ht => ?_⟩)
      · subst e
        cases r1
        exact o _ H (.tup h2 r2) (Same.refl H)
      · subst e
        cases r2
        rw [List.append_nil] at o
        exact o _ H (.tup h1 r1) (Same.refl H)
      · have sm := same_upd (u := .tup (vs ++ ws)) ht
        exact o _ _ (.tup upd_same ((r1.append r2).ext (Ext.of_same sm))) sm
    · cases e
  · cases e
/-- two lists: a new one -/
def sAddL : PV → PV → Option PV
  | .lst xs, .lst ys => if xs.length + ys.length ≤ 16777216 then some (.lst (xs ++ ys)) else none
  | _, _ => none
def rCatL (K : PySem.W.Frag) : R2 := fun x y H Q => ∃ l b xs zs, x = .ref l ∧ y = .ref b ∧ SqL K H l xs ∧ SqL K H b zs ∧ xs.length + zs.length ≤ sizeLine ∧ ∀ p, H p = none → Q (.ref p) (upd H p (.lst (xs ++ zs)))
theorem op_catL : OpR X (binaryOp .Add) (rCatL X.K) := by
  intro pins s σ H x y v u Q I rx ry h
  obtain ⟨l, b, xs, zs, rfl, rfl, hH, hB, hz, q⟩ := h
  cases rx
  cases ry
  obtain ⟨its, r, ⟨⟨cls, dd, data, sl⟩, n, ho, hc, _, hd⟩, hl⟩ := I.list hH
  obtain ⟨its2, r2, ⟨⟨cls2, dd2, data2, sl2⟩, n2, ho2, hc2, _, hd2⟩, hl2⟩ := I.list hB
  simp only at hc hd hc2 hd2
  subst hc hd hc2 hd2
  have e1 := r.length
  have e2 := r2.length
  refine concat_meets ⟨_, ho, rfl⟩ ⟨_, ho2, rfl⟩ noFill_list_add seq_list_add PySem.F.slot_list_add PySem.F.entry_list_add (PySem.F.args_list_add_2 _ _)
    (PyProof.Rows.list_addW l b its.toArray its2.toArray n n2 dd dd2 sl sl2 (by rw [List.size_toArray, List.size_toArray]; omega)) ⟨ho, ho2, ?_⟩
  have ea : its.toArray ++ its2.toArray = (its ++ its2).toArray := by simp
  rw [ea]
  exact ⟨.ref _, _, I.lnew (t' := s.toks) (r.append r2) (by rw [List.length_append]; omega), rfl, q _ I.fresh⟩
theorem s_addL : Sem2 X OutL (rCatL X.K) sAddL := by
  intro H x y p q z Q hx hy e o
  unfold sAddL at e
  split at e
  · split at e
    · rename_i xs ys h
      cases e
      obtain ⟨a, vs, rfl, h1, r1⟩ := hx.lst
      obtain ⟨b, ws, rfl, h2, r2⟩ := hy.lst
      refine ⟨a, b, vs, ws, rfl, rfl, h1, h2, by rw [sizeLine_eq, r1.length, r2.length]; exact h, fun t ht => ?_⟩
      have sm := same_upd (u := .lst (vs ++ ws)) ht
      exact o t _ _ ht upd_same ((r1.append r2).ext (Ext.of_same sm)) sm
    · cases e
  · cases e
/-- a tuple times an int; two ints -/
def sMul : PV → PV → Option PV
  | .int i, .int j => if dMul i j = true then some (.int (i * j)) else none
  | .tup xs, .int k => if xs ≠ [] ∧ 2 ≤ k ∧ k ≤ 1000 ∧ xs.length ≤ 1000 then some (.tup (List.replicate k.toNat xs).flatten) else none
  | _, _ => none
theorem s_mul : Sem2 X Out (fun x y H Q => (rI (fun i j => dMul i j = true) fun i j => .int (i * j)) x y H Q ∨ rRepT X.K x y H Q) sMul := by
  intro H x y p q z Q hx hy e o
  unfold sMul at e
  split at e
  · split at e
    · rename_i i j h
      cases e
      exact .inl ⟨i, j, hx.int, hy.int, h, o _ H (.int _) (Same.refl H)⟩
    · cases e
  · split at e
    · rename_i xs k h
      cases e
      obtain ⟨a, vs, rfl, h1, r1⟩ := hx.tup
      refine .inr ⟨a, k, vs, rfl, hy.int, SqT.of h1, fun e => h.1 (by subst e; cases r1; rfl), h.2.1, h.2.2.1, by rw [r1.length]; exact h.2.2.2, fun t ht => ?_⟩
      have sm := same_upd (u := .tup (List.replicate k.toNat vs).flatten) ht
      exact o _ _ (.tup upd_same ((r1.replicate k.toNat).ext (Ext.of_same sm))) sm
    · cases e
  · cases e
theorem op_mulB : OpR X (binaryOp .Mult) (fun x y H Q => (rI (fun i j => dMul i j = true) fun i j => .int (i * j)) x y H Q ∨ rRepT X.K x y H Q) := op_mulA.or op_repT

/-! ### an item -/
def sIx : PV → PV → Option PV
  | .tup xs, .int i => atI xs i
  | .lst xs, .int i => atI xs i
  | .scr ns, .int i => (atI ns i).map .int
  | .str z, .int i => if z.length ≤ 16777216 then (atI z.cps.toList i).map fun c => .str ⟨#[c]⟩ else none
  | _, _ => none
theorem repA_at {K : PySem.W.Frag} {H : Hp} {vs : List V} {xs : List PV} {i : Int} {x : PV} (r : RepA K H vs xs) (h : atI xs i = some x) : ∃ v, atI vs i = some v ∧ Rep K H v x := by
  unfold atI at h ⊢
  rw [r.length]
  cases e : ixN xs.length i with
  | none => rw [e] at h; cases h
  | some j =>
    rw [e] at h
    obtain ⟨v, h1, h2⟩ := r.get' (show xs[j]? = some x from h)
    exact ⟨v, h1, h2⟩
theorem s_ix : Sem2 X Out (rIx X.K) sIx := by
  intro H x y p q z Q hx hy e o
  unfold sIx at e
  split at e
  · rename_i xs i
    obtain ⟨a, vs, rfl, h1, r1⟩ := hx.tup
    obtain ⟨v, h2, h3⟩ := repA_at r1 e
    exact .inr (.inl ⟨a, vs, i, v, rfl, hy.int, SqT.of h1, h2, o _ H h3 (Same.refl H)⟩)
  · rename_i xs i
    obtain ⟨a, vs, rfl, h1, r1⟩ := hx.lst
    obtain ⟨v, h2, h3⟩ := repA_at r1 e
    exact .inl ⟨a, vs, i, v, rfl, hy.int, h1, h2, o _ H h3 (Same.refl H)⟩
  · rename_i ns i
    obtain ⟨a, rfl, h1⟩ := hx.scr
    obtain ⟨n, h2, h3⟩ := Option.map_eq_some_iff.mp e
    cases h3
    refine .inl ⟨a, _, i, .int n, rfl, hy.int, h1.sq, ?_, o _ H (.int _) (Same.refl H)⟩
    unfold atI at h2 ⊢
    rw [List.length_map]
    obtain ⟨j, h4, h5⟩ := Option.bind_eq_some_iff.mp h2
    rw [h4]
    show (ns.map V.int)[j]? = _
    rw [List.getElem?_map, h5]
    rfl
  · split at e
    · rename_i t i h
      obtain ⟨c, h2, h3⟩ := Option.map_eq_some_iff.mp e
      cases h3
      exact .inr (.inr ⟨t, i, c, hx.str, hy.int, by rw [sizeLine_eq]; exact h, h2, o _ H (.str _) (Same.refl H)⟩)
    · cases e
  · cases e

/-! ### order -/
def ordI : CmpOp → Int → Int → Bool
  | .Lt, i, j => decide (i < j)
  | .LtE, i, j => decide (i ≤ j)
  | .Gt, i, j => decide (j < i)
  | .GtE, i, j => decide (j ≤ i)
  | _, _, _ => false
def ordN : CmpOp → Nat → Nat → Bool
  | .Lt, i, j => decide (i < j)
  | .LtE, i, j => decide (i ≤ j)
  | .Gt, i, j => decide (i > j)
  | .GtE, i, j => decide (i ≥ j)
  | _, _, _ => false
def lexP (f : PV → PV → Option Bool) (z : Bool) : List PV → List PV → Option Bool
  | x :: xs, y :: ys => match lexP f z xs ys with
    | some b => if pEqv x y = true then some b else f x y
    | none => none
  | _, _ => some z
def ordP (op : CmpOp) : Nat → PV → PV → Option Bool
  | _, .int i, .int j => some (ordI op i j)
  | n + 1, .tup xs, .tup ys => lexP (ordP op n) (ordN op xs.length ys.length) xs ys
  | _, _, _ => none
def sOrd (op : CmpOp) : PV → PV → Option PV := fun x y => if pOk x = true ∧ pOk y = true then (ordP op 8 x y).map .bl else none
def IsOrd (op : CmpOp) : Prop := op = .Lt ∨ op = .LtE ∨ op = .Gt ∨ op = .GtE
theorem lexP_at {f : PV → PV → Option Bool} {z b : Bool} {e r : Nat → Bool} : ∀ {xs ys : List PV} (i : Nat), lexP f z xs ys = some b → (∀ j x y, xs[j]? = some x → ys[j]? = some y → e (i + j) = pEqv x y) →
    (∀ j x y c, xs[j]? = some x → ys[j]? = some y → f x y = some c → r (i + j) = c) → Ob.lexAt e r z i (min xs.length ys.length) = b
  | [], ys, i, h, _, _ => by rw [List.length_nil, Nat.zero_min]; exact Option.some.inj h
  | _ :: _, [], i, h, _, _ => by rw [List.length_nil, Nat.min_zero]; exact Option.some.inj h
  | x :: xs, y :: ys, i, h, h1, h2 => by
    have h0 : (match lexP f z xs ys with
      | some b => if pEqv x y = true then some b else f x y
      | none => none) = some b := h
    cases q : lexP f z xs ys with
    | none => rw [q] at h0; cases h0
    | some b' =>
      rw [q] at h0
      have ih := lexP_at (e := e) (r := r) (i + 1) q (fun j a c ha hc => by have := h1 (j + 1) a c (by simpa using ha) (by simpa using hc); rw [← this]; congr 1; omega)
        (fun j a c d ha hc hd => by have := h2 (j + 1) a c d (by simpa using ha) (by simpa using hc) hd; rw [← this]; congr 1; omega)
      have hm : min (x :: xs).length (y :: ys).length = min xs.length ys.length + 1 := by simp only [List.length_cons]; omega
      rw [hm, Ob.lexAt_succ]
      have e0 : e i = pEqv x y := h1 0 x y rfl rfl
      rw [e0]
      by_cases hq : pEqv x y = true
      · rw [if_pos hq]
        have h0' : (if pEqv x y = true then some b' else f x y) = some b := h0
        rw [if_pos hq] at h0'
        rw [ih]
        exact Option.some.inj h0'
      · rw [if_neg hq]
        have h0' : (if pEqv x y = true then some b' else f x y) = some b := h0
        rw [if_neg hq] at h0'
        exact h2 0 x y b rfl rfl h0'
theorem lexP_some {f : PV → PV → Option Bool} {z b : Bool} : ∀ {xs ys : List PV}, lexP f z xs ys = some b → ∀ (j : Nat) x y, xs[j]? = some x → ys[j]? = some y → pEqv x y = false → ∃ c, f x y = some c
  | [], ys, h, j, x, y, hx, _, _ => by simp at hx
  | _ :: _, [], h, j, x, y, _, hy, _ => by simp at hy
  | x :: xs, y :: ys, h, j, a, c, ha, hc, hn => by
    have h0 : (match lexP f z xs ys with
      | some b => if pEqv x y = true then some b else f x y
      | none => none) = some b := h
    cases q : lexP f z xs ys with
    | none => rw [q] at h0; cases h0
    | some b' =>
      rw [q] at h0
      cases j with
      | zero =>
        simp at ha hc
        subst ha hc
        have h0' : (if pEqv x y = true then some b' else f x y) = some b := h0
        rw [if_neg (by rw [hn]; exact Bool.false_ne_true)] at h0'
        exact ⟨b, h0'⟩
      | succ j => exact lexP_some q j a c (by simpa using ha) (by simpa using hc) hn
theorem lay_items {xs : List PV} (h : (toPD (.tup xs)).canLay0 = true) : ∀ x ∈ xs, (toPD x).canLay0 = true := by
  have h' : PyData.canLayAll0 (toPDs xs) = true := by simpa [toPD, PyData.canLay0] using h
  clear h
  induction xs with
  | nil => intro x hx; cases hx
  | cons y ys ih =>
    have hc : (toPD y).canLay0 = true ∧ PyData.canLayAll0 (toPDs ys) = true := by simpa [toPDs, PyData.canLayAll0] using h'
    intro x hx
    rcases List.mem_cons.mp hx with rfl | hx
    · exact hc.1
    · exact ih hc.2 x hx
theorem depth_items {xs : List PV} {n : Nat} (h : (toPD (.tup xs)).depth ≤ n + 1) : ∀ x ∈ xs, (toPD x).depth ≤ n := by
  have h' : PyData.depthAll (toPDs xs) ≤ n := by simpa [toPD, PyData.depth] using h
  clear h
  induction xs with
  | nil => intro x hx; cases hx
  | cons y ys ih =>
    have hc : (toPD y).depth ≤ n ∧ PyData.depthAll (toPDs ys) ≤ n := by simpa [toPDs, PyData.depthAll, Nat.max_le] using h'
    intro x hx
    rcases List.mem_cons.mp hx with rfl | hx
    · exact hc.1
    · exact ih hc.2 x hx
theorem eqAt_rep {pins : List (Addr × Obj)} {σ : St} {H : Hp} {s : Shared} (I : Inv X pins σ H s) {A : Around} {v w : V} {u u' : Value} {x y : PV} (hx : Rep X.K H v x) (hy : Rep X.K H w y) (ru : RelV v u) (rw' : RelV w u')
    (cx : (toPD x).canLay0 = true) (cy : (toPD y).canLay0 = true) (hu : A.units + (toPD x).depth < cLine) : SeqAt.EqAt A s u u' (pEqv x y) := by
  obtain ⟨as, r1⟩ := Dp.reads I _ v u (hx.dp cx) ru
  obtain ⟨bs, r2⟩ := Dp.reads I _ w u' (hy.dp cy) rw'
  refine SeqAt.eqAt_reads _ _ A s u u' as bs r1 r2 cx cy ?_
  have := Nat.min_le_left (toPD x).depth (toPD y).depth
  omega
theorem rc_ord {op : CmpOp} (ho : IsOrd op) {pins : List (Addr × Obj)} {σ : St} {H : Hp} {s : Shared} (I : Inv X pins σ H s) : ∀ (n : Nat) (A : Around) (x y : PV) (v w : V) (u u' : Value) (b : Bool), Rep X.K H v x → Rep X.K H w y → RelV v u → RelV w u' →
    (toPD x).canLay0 = true → (toPD y).canLay0 = true → (toPD x).depth ≤ 64 → A.units + n + 66 < cLine → ordP op n x y = some b → Ob.RcOp op A s u u' b := by
  intro n
  induction n with
  | zero =>
    intro A x y v w u u' b hx hy ru rw' cx cy dx hu e
    cases x <;> cases y <;> first | (cases e; done) | skip
    cases e
    cases hx
    cases hy
    obtain ⟨t, rfl⟩ := ru
    obtain ⟨t', rfl⟩ := rw'
    rcases ho with rfl | rfl | rfl | rfl
    · exact Ob.RcOp.lt_int _ _ _ _
    · exact Ob.RcOp.le_int _ _ _ _
    · exact Ob.RcOp.gt_int _ _ _ _
    · exact Ob.RcOp.ge_int _ _ _ _
  | succ n ih =>
    intro A x y v w u u' b hx hy ru rw' cx cy dx hu e
    cases x <;> cases y <;> first | (cases e; done) | skip
    · cases e
      cases hx
      cases hy
      obtain ⟨t, rfl⟩ := ru
      obtain ⟨t', rfl⟩ := rw'
      rcases ho with rfl | rfl | rfl | rfl
      · exact Ob.RcOp.lt_int _ _ _ _
      · exact Ob.RcOp.le_int _ _ _ _
      · exact Ob.RcOp.gt_int _ _ _ _
      · exact Ob.RcOp.ge_int _ _ _ _
    · rename_i xs ys
      have e : lexP (ordP op n) (ordN op xs.length ys.length) xs ys = some b := e
      cases hx with
      | tup h1 r1 =>
        cases hy with
        | tup h2 r2 =>
          cases (show u = Value.ref _ from ru)
          cases (show u' = Value.ref _ from rw')
          obtain ⟨its, q1, p1, _⟩ := I.tuple (SqT.of h1)
          obtain ⟨its2, q2, p2, _⟩ := I.tuple (SqT.of h2)
          have l1 : its.toArray.size = xs.length := by rw [List.size_toArray, ← q1.length, r1.length]
          have l2 : its2.toArray.size = ys.length := by rw [List.size_toArray, ← q2.length, r2.length]
          have at1 : ∀ (j : Nat) (h : j < its.toArray.size), ∃ v x, xs[j]? = some x ∧ Rep X.K H v x ∧ RelV v its.toArray[j] := fun j h => by
            have hj : j < xs.length := by omega
            obtain ⟨v, hv, rv⟩ := r1.get' (List.getElem?_eq_getElem hj)
            obtain ⟨w, hw, rw2⟩ := q1.get hv
            refine ⟨v, xs[j], List.getElem?_eq_getElem hj, rv, ?_⟩
            have : its.toArray[j]? = some w := by simpa using hw
            rw [Array.getElem?_eq_getElem h] at this
            cases this
            exact rw2
          have at2 : ∀ (j : Nat) (h : j < its2.toArray.size), ∃ v x, ys[j]? = some x ∧ Rep X.K H v x ∧ RelV v its2.toArray[j] := fun j h => by
            have hj : j < ys.length := by omega
            obtain ⟨v, hv, rv⟩ := r2.get' (List.getElem?_eq_getElem hj)
            obtain ⟨w, hw, rw2⟩ := q2.get hv
            refine ⟨v, ys[j], List.getElem?_eq_getElem hj, rv, ?_⟩
            have : its2.toArray[j]? = some w := by simpa using hw
            rw [Array.getElem?_eq_getElem h] at this
            cases this
            exact rw2
          have k1 := lay_items cx
          have k2 := lay_items cy
          have k3 := depth_items (n := 63) (by omega : (toPD (.tup xs)).depth ≤ 63 + 1)
          have he : ∀ j (g1 : j < its.toArray.size) (g2 : j < its2.toArray.size), SeqAt.EqAt A.in1 s its.toArray[j] its2.toArray[j] (pEqv (xs.getD j .non) (ys.getD j .non)) := fun j g1 g2 => by
            obtain ⟨v, x, ex, rx, rv⟩ := at1 j g1
            obtain ⟨v', x', ex', rx', rv'⟩ := at2 j g2
            have m1 := List.mem_of_getElem? ex
            have m2 := List.mem_of_getElem? ex'
            have z1 : xs.getD j .non = x := by rw [List.getD_eq_getElem?_getD, ex]; rfl
            have z2 : ys.getD j .non = x' := by rw [List.getD_eq_getElem?_getD, ex']; rfl
            rw [z1, z2]
            have := k3 x m1
            exact eqAt_rep I rx rx' rv rv' (k1 x m1) (k2 x' m2) (by show A.units + 1 + _ < cLine; omega)
          have hr : ∀ j (g1 : j < its.toArray.size) (g2 : j < its2.toArray.size), pEqv (xs.getD j .non) (ys.getD j .non) = false → Ob.RcOp op A.in1 s its.toArray[j] its2.toArray[j] ((ordP op n (xs.getD j .non) (ys.getD j .non)).getD false) := fun j g1 g2 hne => by
            obtain ⟨v, x, ex, rx, rv⟩ := at1 j g1
            obtain ⟨v', x', ex', rx', rv'⟩ := at2 j g2
            have m1 := List.mem_of_getElem? ex
            have m2 := List.mem_of_getElem? ex'
            have z1 : xs.getD j .non = x := by rw [List.getD_eq_getElem?_getD, ex]; rfl
            have z2 : ys.getD j .non = x' := by rw [List.getD_eq_getElem?_getD, ex']; rfl
            rw [z1, z2] at hne ⊢
            obtain ⟨c, hc⟩ := lexP_some e j x x' ex ex' hne
            rw [hc]
            have := k3 x m1
            exact ih A.in1 x x' v v' _ _ c rx rx' rv rv' (k1 x m1) (k2 x' m2) (by omega) (by show A.units + 1 + n + 66 < cLine; omega) hc
          have fin := lexP_at (e := fun j => pEqv (xs.getD j .non) (ys.getD j .non)) (r := fun j => (ordP op n (xs.getD j .non) (ys.getD j .non)).getD false) 0 e
            (fun j x y h3 h4 => by rw [Nat.zero_add, List.getD_eq_getElem?_getD, List.getD_eq_getElem?_getD, h3, h4]; rfl)
            (fun j x y c h3 h4 h5 => by
              show (ordP op n (xs.getD (0 + j) .non) (ys.getD (0 + j) .non)).getD false = c
              rw [Nat.zero_add, List.getD_eq_getElem?_getD, List.getD_eq_getElem?_getD, h3, h4]
              show (ordP op n x y).getD false = c
              rw [h5]; rfl)
          rw [← l1, ← l2] at fin
          have hun : A.units < cLine := by omega
          rcases ho with rfl | rfl | rfl | rfl
          · rw [← fin]
            exact Ob.RcOp.tuples_lt p1 p2 hun he hr
          · rw [← fin]
            exact Ob.RcOp.tuples_le p1 p2 hun he hr
          · rw [← fin]
            exact Ob.RcOp.tuples_gt p1 p2 hun he hr
          · rw [← fin]
            exact Ob.RcOp.tuples_ge p1 p2 hun he hr
def rOrd (K : PySem.W.Frag) (op : CmpOp) : R2 := fun x y H Q => ∃ p q b, Rep K H x p ∧ Rep K H y q ∧ pOk p = true ∧ pOk q = true ∧ ordP op 8 p q = some b ∧ Q (.bl b) H
theorem op_ord {op : CmpOp} (ho : IsOrd op) (hu : X.A.units + 80 < cLine) : OpR X (compareOp op) (rOrd X.K op) := by
  intro pins s σ H x y v u Q I rx ry h
  obtain ⟨p, q, b, hp, hq, op', oq, e, hQ⟩ := h
  have R := rc_ord ho I 8 X.A p q x y v u b hp hq rx ry (pOk_lay op') (pOk_lay oq) (pOk_depth op') (by omega) e X.prog X.w X.xe (EP X pins σ Q) ⟨.bl b, H, I, rfl, hQ⟩
  rcases ho with rfl | rfl | rfl | rfl <;> exact R
theorem RT.ofScalar {K : PySem.W.Frag} {H : Hp} {v : V} {x : PV} (h : RT K H v x) (n : ∀ xs, x ≠ .lst xs) (n2 : ∀ xs, x ≠ .dk xs) (n3 : ∀ xs, x ≠ .dt xs) : Rep K H v x := by
  rcases h with h | ⟨a, u, rfl, e, h⟩
  · exact h
  · rcases ro_none h with ⟨xs, z⟩ | ⟨xs, z⟩ | ⟨xs, z⟩
    · exact absurd z (n xs)
    · exact absurd z (n2 xs)
    · exact absurd z (n3 xs)
theorem ordP_kind {op : CmpOp} {n : Nat} {x y : PV} {b : Bool} (e : ordP op n x y = some b) : (∃ i j, x = .int i ∧ y = .int j) ∨ ∃ xs ys, x = .tup xs ∧ y = .tup ys := by
  cases n <;> cases x <;> cases y <;> first | (cases e; done) | exact .inl ⟨_, _, rfl, rfl⟩ | exact .inr ⟨_, _, rfl, rfl⟩
theorem s_ord {op : CmpOp} : Sem2 X Out (rOrd X.K op) (sOrd op) := by
  intro H x y p q z Q hx hy e o
  unfold sOrd at e
  split at e
  · rename_i h
    obtain ⟨b, hb, rfl⟩ := Option.map_eq_some_iff.mp e
    have hp : Rep X.K H x p ∧ Rep X.K H y q := by
      rcases ordP_kind hb with ⟨i, j, rfl, rfl⟩ | ⟨xs, ys, rfl, rfl⟩
      · exact ⟨hx.ofScalar (fun _ => nofun) (fun _ => nofun) (fun _ => nofun), hy.ofScalar (fun _ => nofun) (fun _ => nofun) (fun _ => nofun)⟩
      · exact ⟨hx.ofScalar (fun _ => nofun) (fun _ => nofun) (fun _ => nofun), hy.ofScalar (fun _ => nofun) (fun _ => nofun) (fun _ => nofun)⟩
    exact ⟨p, q, b, hp.1, hp.2, h.1, h.2, hb, o _ H (.bl b) (Same.refl H)⟩
  · cases e
end
end VL

set_option Elab.async false
set_option linter.all false
set_option autoImplicit false
set_option maxRecDepth 100000
set_option maxHeartbeats 4000000
/-! VL3: arguments, built-ins, displays, slices. -/
namespace VL
open PySem L2

section
variable {X : Cx} {W : WX} {K : PySem.W.Frag} {mg : Str → Option Value} {S : Sk} {σ : St} {H H' : Hp}
/-! ### arguments -/
def OVs (K : PySem.W.Frag) (σ : St) (H : Hp) : List OV → List V → Prop
  | [], [] => True
  | o :: os, v :: vs => OVRel K σ H o v ∧ OVs K σ H os vs
  | _, _ => False
theorem OVs.ext (e : Ext H H') : ∀ {os : List OV} {vs : List V}, OVs K σ H os vs → OVs K σ H' os vs
  | [], [], _ => trivial
  | o :: os, v :: vs, h => ⟨h.1.ext e, OVs.ext e h.2⟩
  | [], _ :: _, h => h.elim
  | _ :: _, [], h => h.elim
def PostA (K : PySem.W.Frag) (mg : Str → Option Value) (W : WX) (S : Sk) (σ : St) (H : Hp) (r : R (List OV)) (Q : List V → Hp → Prop) : Prop := match r with
  | .stuck => False
  | .ok os S' => ∀ vs H', OVs K σ H' os vs → RelS K S' σ H' → Frm S σ H S' σ H' → Q vs H'
  | .exc e S' => ∀ cls d H', ExnRep K mg H' cls d e → RelS K S' σ H' → Frm S σ H S' σ H' → W cls d σ H'
def LiftA (K : PySem.W.Frag) (mg : Str → Option Value) (W : WX) (f : Sk → R (List OV)) : TA := fun σ H Q => ∃ S, RelS K S σ H ∧ PostA K mg W S σ H (f S) Q
structure EA (X : Cx) (W : WX) (es : List Expr) (f : Sk → R (List OV)) : Prop where
  pa : PA X es (LiftA X.K X.mg W f)
theorem PA.imp {es : List Expr} {t t' : TA} (h : PA X es t) (i : ∀ σ H Q, t' σ H Q → t σ H Q) : PA X es t' := ⟨fun pos pins s σ H Q I q => h.run pos pins s σ H Q I (i σ H Q q)⟩
def aNil : Sk → R (List OV) := fun S => .ok [] S
def aCons (a : Sk → R OV) (r : Sk → R (List OV)) : Sk → R (List OV) := fun S => (a S).bind fun o S1 => (r S1).bind fun os S2 => .ok (o :: os) S2
theorem ea_nil : EA X W [] aNil := ⟨PA.imp pa_nil fun σ H Q ⟨S, R0, q⟩ => q [] H trivial R0 .refl⟩
theorem ea_cons {e : Expr} {es : List Expr} {a : Sk → R OV} {r : Sk → R (List OV)} (ha : EO X W e a) (hr : EA X W es r) (hs : starEach (e :: es) X.env = (false, eval e X.env) :: starEach es X.env) : EA X W (e :: es) (aCons a r) := by
  refine ⟨PA.imp (pa_cons ha.pe hr.pa hs) fun σ H Q ⟨S, R0, q⟩ => ⟨S, R0, ?_⟩⟩
  unfold aCons at q
  cases h1 : a S with
  | stuck => rw [h1] at q; exact q
  | exc x S1 => rw [h1] at q; exact q
  | ok o S1 =>
    rw [h1, R.bind_ok] at q
    intro v H1 ov R1 F1
    refine ⟨S1, R1, ?_⟩
    cases h2 : r S1 with
    | stuck => rw [h2] at q; exact q
    | exc x S2 => rw [h2] at q; exact fun c d H2 er R2 F2 => q c d H2 er R2 (F1.trans F2)
    | ok os S2 =>
      rw [h2, R.bind_ok] at q
      exact fun vs H2 ovs R2 F2 => q (v :: vs) H2 ⟨ov.ext (R1.ext F2), ovs⟩ R2 (F1.trans F2)
def lookAll (S : Sk) : List OV → Option (List PV)
  | [] => some []
  | o :: os => match look S o, lookAll S os with
    | some x, some xs => some (x :: xs)
    | _, _ => none
def RTs (K : PySem.W.Frag) (H : Hp) : List V → List PV → Prop
  | [], [] => True
  | v :: vs, x :: xs => RT K H v x ∧ RTs K H vs xs
  | _, _ => False
theorem lookAll_rt (R : RelS K S σ H) : ∀ {os : List OV} {vs : List V} {xs : List PV}, OVs K σ H os vs → lookAll S os = some xs → RTs K H vs xs
  | [], [], xs, _, e => by cases e; trivial
  | o :: os, v :: vs, xs, h, e => by
    unfold lookAll at e
    split at e
    · rename_i x ys h1 h2
      cases e
      exact ⟨look_rt R h.1 h1, lookAll_rt R h.2 h2⟩
    · cases e
  | [], _ :: _, _, h, _ => h.elim
  | _ :: _, [], _, h, _ => h.elim
def opA (sem : List PV → Option PV) (f : Sk → R (List OV)) : Sk → R PV := fun S => (f S).bind fun os S1 => match lookAll S1 os with
  | some ps => (match sem ps with
    | some z => .ok z S1
    | none => .stuck)
  | none => .stuck
def SemA (X : Cx) (out : PySem.W.Frag → Hp → PV → VK → Prop) (r : List V → Hp → VK → Prop) (sem : List PV → Option PV) : Prop := ∀ (H : Hp) (vs : List V) (ps : List PV) (z : PV) (Q : VK), RTs X.K H vs ps → sem ps = some z → out X.K H z Q → r vs H Q
theorem liftA {f : Sk → R (List OV)} {sem : List PV → Option PV} {r : List V → Hp → VK → Prop} (hs : SemA X Out r sem) {σ : St} {H : Hp} {Q : VK} (h : LiftE X.K X.mg W (opA sem f) σ H Q) : LiftA X.K X.mg W f σ H fun vs H1 => r vs H1 Q := by
  obtain ⟨S, R0, q⟩ := h
  refine ⟨S, R0, ?_⟩
  unfold opA at q
  cases ha : f S with
  | stuck => rw [ha] at q; exact q
  | exc x S1 => rw [ha] at q; exact q
  | ok x S1 =>
    rw [ha, R.bind_ok] at q
    intro v H1 ov R1 F1
    split at q
    · rename_i p hp
      split at q
      · rename_i z hz
        exact hs H1 v p z Q (lookAll_rt R1 ov hp) hz (post_out (r := .stuck) R1 F1 q)
      · exact (show False from q).elim
    · exact (show False from q).elim
theorem liftAL {f : Sk → R (List OV)} {sem : List PV → Option PV} {r : List V → Hp → VK → Prop} (hs : SemA X OutL r sem) {σ : St} {H : Hp} {Q : VK} (h : LiftL X.K X.mg W (opA sem f) σ H Q) : LiftA X.K X.mg W f σ H fun vs H1 => r vs H1 Q := by
  obtain ⟨S, R0, q⟩ := h
  refine ⟨S, R0, ?_⟩
  unfold opA at q
  cases ha : f S with
  | stuck => rw [ha] at q; exact q
  | exc x S1 => rw [ha] at q; exact q
  | ok x S1 =>
    rw [ha, R.bind_ok] at q
    intro v H1 ov R1 F1
    split at q
    · rename_i p hp
      split at q
      · rename_i z hz
        exact hs H1 v p z Q (lookAll_rt R1 ov hp) hz (post_outL (r := .stuck) R1 F1 q)
      · exact (show False from q).elim
    · exact (show False from q).elim
variable {x : Str} {p pos : Pos} {e : Expr} {es : List Expr} {idn T : String} {r : List V → Hp → VK → Prop} {sem : List PV → Option PV} {fa : Sk → R (List OV)}
theorem ev_callB (hc : CallR X (.builtin idn) r) (hs : SemA X Out r sem) (hg : Gl X x) (hm : X.mg x = none) (hv : bootBuiltins x = some (.builtin idn)) (ha : EA X W (e :: es) fa) (hn : x ≠ "__name__") (hdb : (x == ("__debug__" : Str)) = false)
    (he : starEach (e :: es) X.env = (false, eval e X.env) :: starEach es X.env) (hpl : (backTo pos (starEach es X.env)).any (·.1) = false) : EV X W (.Call (.Name x p) (e :: es) [] pos) (opA sem fa) :=
  ⟨PE.imp (pe_callB hc hg hm hv ha.pa hn hdb he hpl) fun _ _ _ h => liftA hs h⟩
theorem ev_callTy (hc : CallR X (.type T) r) (hs : SemA X Out r sem) (hg : Gl X x) (hm : X.mg x = none) (hv : bootBuiltins x = some (.type T)) (ha : EA X W (e :: es) fa) (hn : x ≠ "__name__") (hdb : (x == ("__debug__" : Str)) = false)
    (he : starEach (e :: es) X.env = (false, eval e X.env) :: starEach es X.env) (hpl : (backTo pos (starEach es X.env)).any (·.1) = false) : EV X W (.Call (.Name x p) (e :: es) [] pos) (opA sem fa) :=
  ⟨PE.imp (pe_callTy hc hg hm hv ha.pa hn hdb he hpl) fun _ _ _ h => liftA hs h⟩
theorem el_callB (hc : CallR X (.builtin idn) r) (hs : SemA X OutL r sem) (hg : Gl X x) (hm : X.mg x = none) (hv : bootBuiltins x = some (.builtin idn)) (ha : EA X W (e :: es) fa) (hn : x ≠ "__name__") (hdb : (x == ("__debug__" : Str)) = false)
    (he : starEach (e :: es) X.env = (false, eval e X.env) :: starEach es X.env) (hpl : (backTo pos (starEach es X.env)).any (·.1) = false) : EL X W (.Call (.Name x p) (e :: es) [] pos) (opA sem fa) :=
  ⟨PE.imp (pe_callB hc hg hm hv ha.pa hn hdb he hpl) fun _ _ _ h => liftAL hs h⟩
theorem el_callTy (hc : CallR X (.type T) r) (hs : SemA X OutL r sem) (hg : Gl X x) (hm : X.mg x = none) (hv : bootBuiltins x = some (.type T)) (ha : EA X W (e :: es) fa) (hn : x ≠ "__name__") (hdb : (x == ("__debug__" : Str)) = false)
    (he : starEach (e :: es) X.env = (false, eval e X.env) :: starEach es X.env) (hpl : (backTo pos (starEach es X.env)).any (·.1) = false) : EL X W (.Call (.Name x p) (e :: es) [] pos) (opA sem fa) :=
  ⟨PE.imp (pe_callTy hc hg hm hv ha.pa hn hdb he hpl) fun _ _ _ h => liftAL hs h⟩

/-! ### displays -/
def valsOf : List OV → Option (List PV)
  | [] => some []
  | .v x :: os => (valsOf os).map (x :: ·)
  | .s _ :: _ => none
theorem valsOf_rep : ∀ {os : List OV} {vs : List V} {xs : List PV}, OVs K σ H os vs → valsOf os = some xs → RepA K H vs xs
  | [], [], xs, _, e => by cases e; exact .nil
  | .v y :: os, v :: vs, xs, h, e => by
    obtain ⟨ys, h1, h2⟩ := Option.map_eq_some_iff.mp e
    cases h2
    exact .cons h.1 (valsOf_rep h.2 h1)
  | .s _ :: os, v :: vs, xs, h, e => by cases e
  | [], _ :: _, _, h, _ => h.elim
  | .v _ :: _, [], _, h, _ => h.elim
  | .s _ :: _, [], _, h, _ => h.elim
def dispF (mk : List PV → PV) (f : Sk → R (List OV)) : Sk → R PV := fun S => (f S).bind fun os S1 => match valsOf os with
  | some xs => if xs.length ≤ 16777216 then .ok (mk xs) S1 else .stuck
  | none => .stuck
theorem ev_tup {k : Nat} (ha : EA X W es fa) : EV X W (.Tuple es k pos) (dispF .tup fa) := by
  refine ⟨PE.imp (pe_tup ha.pa) fun σ H Q ⟨S, R0, q⟩ => ⟨S, R0, ?_⟩⟩
  unfold dispF at q
  cases hf : fa S with
  | stuck => rw [hf] at q; exact q
  | exc y S1 => rw [hf] at q; exact q
  | ok os S1 =>
    rw [hf, R.bind_ok] at q
    intro vs H1 ov R1 F1
    split at q
    · split at q
      · rename_i xs h1 h2
        have r := valsOf_rep ov h1
        refine ⟨by rw [sizeLine_eq, r.length]; exact h2, fun t ht => ?_⟩
        have sm := same_upd (u := .tup vs) ht
        exact post_out (r := .stuck) R1 F1 q _ _ (.tup upd_same (r.ext (Ext.of_same sm))) sm
      · exact (show False from q).elim
    · exact (show False from q).elim
theorem el_lst (ha : EA X W es fa) : EL X W (.List es pos) (dispF .lst fa) := by
  refine ⟨PE.imp (pe_lst ha.pa) fun σ H Q ⟨S, R0, q⟩ => ⟨S, R0, ?_⟩⟩
  unfold dispF at q
  cases hf : fa S with
  | stuck => rw [hf] at q; exact q
  | exc y S1 => rw [hf] at q; exact q
  | ok os S1 =>
    rw [hf, R.bind_ok] at q
    intro vs H1 ov R1 F1
    split at q
    · split at q
      · rename_i xs h1 h2
        have r := valsOf_rep ov h1
        refine ⟨by rw [sizeLine_eq, r.length]; exact h2, fun t ht => ?_⟩
        have sm := same_upd (u := .lst vs) ht
        exact post_outL (r := .stuck) R1 F1 q t _ _ ht upd_same (r.ext (Ext.of_same sm)) sm
      · exact (show False from q).elim
    · exact (show False from q).elim

/-! ### slices -/
def LiftP (K : PySem.W.Frag) (mg : Str → Option Value) (W : WX) (f : Sk → R (Option Int)) : TO := fun σ H Q => ∃ S, RelS K S σ H ∧ match f S with
  | .stuck => False
  | .ok o S' => ∀ H', RelS K S' σ H' → Frm S σ H S' σ H' → Q o H'
  | .exc e S' => ∀ cls d H', ExnRep K mg H' cls d e → RelS K S' σ H' → Frm S σ H S' σ H' → W cls d σ H'
structure EP (X : Cx) (W : WX) (e : Option Expr) (f : Sk → R (Option Int)) : Prop where
  po : PO X e (LiftP X.K X.mg W f)
theorem PO.imp {e : Option Expr} {t t' : TO} (h : PO X e t) (i : ∀ σ H Q, t' σ H Q → t σ H Q) : PO X e t' := ⟨fun pins s σ H Q I q => h.run pins s σ H Q I (i σ H Q q)⟩
def pNone : Sk → R (Option Int) := fun S => .ok none S
def pSome (f : Sk → R PV) : Sk → R (Option Int) := fun S => (f S).bind fun x S1 => match x with
  | .int i => .ok (some i) S1
  | _ => .stuck
theorem ep_none : EP X W none pNone := ⟨PO.imp po_none fun σ H Q ⟨S, R0, q⟩ => q H R0 .refl⟩
theorem ep_some {f : Sk → R PV} (h : EV X W e f) : EP X W (some e) (pSome f) := by
  refine ⟨PO.imp (po_some h.pe) fun σ H Q ⟨S, R0, q⟩ => ⟨S, R0, ?_⟩⟩
  unfold pSome at q
  cases hf : f S with
  | stuck => rw [hf] at q; exact q
  | exc y S1 => rw [hf] at q; exact q
  | ok x S1 =>
    rw [hf, R.bind_ok] at q
    intro v H1 rv R1 F1
    cases x <;> first | exact (show False from q).elim | skip
    cases rv
    exact ⟨_, rfl, q H1 R1 F1⟩
def slF (sem : PV → Option Int → Option Int → Option PV) (f : Sk → R OV) (l u : Sk → R (Option Int)) : Sk → R PV := fun S => (f S).bind fun x S1 => (l S1).bind fun lo S2 => (u S2).bind fun hi S3 => match look S3 x with
  | some p => (match sem p lo hi with
    | some z => .ok z S3
    | none => .stuck)
  | none => .stuck
def cutP (xs : List PV) (lo hi : Option Int) : List PV := (xs.drop (HT.sIx xs.length 0 lo)).take (HT.sIx xs.length xs.length hi - HT.sIx xs.length 0 lo)
theorem cut_rep {vs : List V} {xs : List PV} (r : RepA K H vs xs) (lo hi : Option Int) : RepA K H (cutV vs lo hi) (cutP xs lo hi) := by
  unfold cutV cutP
  rw [r.length]
  exact (r.drop _).take _
def sSl : PV → Option Int → Option Int → Option PV
  | .tup xs, lo, hi => some (.tup (cutP xs lo hi))
  | .str z, lo, hi => if z.length ≤ 16777216 then some (.str (cutS z lo hi)) else none
  | _, _, _ => none
def sSlL : PV → Option Int → Option Int → Option PV
  | .lst xs, lo, hi => some (.lst (cutP xs lo hi))
  | _, _, _ => none
abbrev rSlV (K : PySem.W.Frag) : V → Option Int → Option Int → Hp → VK → Prop := fun x lo hi H Q => rSlA K x lo hi H Q ∨ rSlS x lo hi H Q
theorem cut_whole {xs : List PV} {lo hi : Option Int} (h : HT.sIx xs.length 0 lo = 0 ∧ HT.sIx xs.length xs.length hi = xs.length) : cutP xs lo hi = xs := by
  unfold cutP
  rw [h.1, h.2, List.drop_zero, Nat.sub_zero, List.take_length]
theorem s_sl {x : V} {p z : PV} {lo hi : Option Int} {Q : VK} (hx : RT X.K H x p) (e : sSl p lo hi = some z) (o : Out X.K H z Q) : rSlV X.K x lo hi H Q := by
  unfold sSl at e
  split at e
  · cases e
    obtain ⟨a, vs, rfl, h1, r1⟩ := hx.tup
    refine .inl ⟨a, vs, rfl, SqT.of h1, fun hw => ?_, fun _ t ht => ?_⟩
    · rw [r1.length] at hw
      rw [cut_whole hw] at o
      exact o _ H (.tup h1 r1) (Same.refl H)
    · have sm := same_upd (u := .tup (cutV vs lo hi)) ht
      exact o _ _ (.tup upd_same ((cut_rep r1 lo hi).ext (Ext.of_same sm))) sm
  · split at e
    · rename_i h
      cases e
      exact .inr ⟨_, hx.str, by rw [sizeLine_eq]; exact h, o _ H (.str _) (Same.refl H)⟩
    · cases e
  · cases e
theorem s_slL {x : V} {p z : PV} {lo hi : Option Int} {Q : VK} (hx : RT X.K H x p) (e : sSlL p lo hi = some z) (o : OutL X.K H z Q) : rSlL X.K x lo hi H Q := by
  unfold sSlL at e
  split at e
  · cases e
    obtain ⟨a, vs, rfl, h1, r1⟩ := hx.lst
    refine ⟨a, vs, rfl, h1, fun t ht => ?_⟩
    have sm := same_upd (u := .lst (cutV vs lo hi)) ht
    exact o t _ _ ht upd_same ((cut_rep r1 lo hi).ext (Ext.of_same sm)) sm
  · cases e
variable {lo hi : Option Expr} {fo : Sk → R OV} {fl fh : Sk → R (Option Int)} {p2 : Pos}
theorem ev_slice (ha : EO X W e fo) (hl : EP X W lo fl) (hh : EP X W hi fh) : EV X W (.Subscript e (.Slice lo hi none p2) pos) (slF sSl fo fl fh) := by
  refine ⟨PE.imp (pe_slice (sl_tupA.or sl_str) ha.pe hl.po hh.po) fun σ H Q ⟨S, R0, q⟩ => ⟨S, R0, ?_⟩⟩
  unfold slF at q
  cases h1 : fo S with
  | stuck => rw [h1] at q; exact q
  | exc y S1 => rw [h1] at q; exact q
  | ok x S1 =>
    rw [h1, R.bind_ok] at q
    intro v H1 ov R1 F1
    refine ⟨S1, R1, ?_⟩
    cases h2 : fl S1 with
    | stuck => rw [h2] at q; exact q
    | exc y S2 => rw [h2] at q; exact fun c d H2 er R2 F2 => q c d H2 er R2 (F1.trans F2)
    | ok l S2 =>
      rw [h2, R.bind_ok] at q
      intro H2 R2 F2
      refine ⟨S2, R2, ?_⟩
      cases h3 : fh S2 with
      | stuck => rw [h3] at q; exact q
      | exc y S3 => rw [h3] at q; exact fun c d H3 er R3 F3 => q c d H3 er R3 ((F1.trans F2).trans F3)
      | ok u S3 =>
        rw [h3, R.bind_ok] at q
        intro H3 R3 F3
        split at q
        · rename_i pv hp
          split at q
          · rename_i z hz
            exact s_sl (look_rt R3 ((ov.ext (R1.ext F2)).ext (R2.ext F3)) hp) hz (post_out (r := .stuck) R3 ((F1.trans F2).trans F3) q)
          · exact (show False from q).elim
        · exact (show False from q).elim
theorem el_slice (ha : EO X W e fo) (hl : EP X W lo fl) (hh : EP X W hi fh) : EL X W (.Subscript e (.Slice lo hi none p2) pos) (slF sSlL fo fl fh) := by
  refine ⟨PE.imp (pe_slice sl_list ha.pe hl.po hh.po) fun σ H Q ⟨S, R0, q⟩ => ⟨S, R0, ?_⟩⟩
  unfold slF at q
  cases h1 : fo S with
  | stuck => rw [h1] at q; exact q
  | exc y S1 => rw [h1] at q; exact q
  | ok x S1 =>
    rw [h1, R.bind_ok] at q
    intro v H1 ov R1 F1
    refine ⟨S1, R1, ?_⟩
    cases h2 : fl S1 with
    | stuck => rw [h2] at q; exact q
    | exc y S2 => rw [h2] at q; exact fun c d H2 er R2 F2 => q c d H2 er R2 (F1.trans F2)
    | ok l S2 =>
      rw [h2, R.bind_ok] at q
      intro H2 R2 F2
      refine ⟨S2, R2, ?_⟩
      cases h3 : fh S2 with
      | stuck => rw [h3] at q; exact q
      | exc y S3 => rw [h3] at q; exact fun c d H3 er R3 F3 => q c d H3 er R3 ((F1.trans F2).trans F3)
      | ok u S3 =>
        rw [h3, R.bind_ok] at q
        intro H3 R3 F3
        split at q
        · rename_i pv hp
          split at q
          · rename_i z hz
            exact s_slL (look_rt R3 ((ov.ext (R1.ext F2)).ext (R2.ext F3)) hp) hz (post_outL (r := .stuck) R3 ((F1.trans F2).trans F3) q)
          · exact (show False from q).elim
        · exact (show False from q).elim

/-! ### built-ins -/
theorem rts1 {vs : List V} {x : PV} (h : RTs K H vs [x]) : ∃ v, vs = [v] ∧ RT K H v x := by
  match vs, h with
  | [v], h => exact ⟨v, rfl, h.1⟩
theorem rts2 {vs : List V} {x y : PV} (h : RTs K H vs [x, y]) : ∃ v w, vs = [v, w] ∧ RT K H v x ∧ RT K H w y := by
  match vs, h with
  | [v, w], h => exact ⟨v, w, rfl, h.1, h.2.1⟩
def sLen : List PV → Option PV
  | [.tup xs] => some (.int xs.length)
  | [.lst xs] => some (.int xs.length)
  | [.scr ns] => some (.int ns.length)
  | [.str z] => if z.length ≤ 16777216 then some (.int z.length) else none
  | _ => none
theorem s_len : SemA X Out (fun xs H Q => ∃ x n, xs = [x] ∧ LenV X.K x H n ∧ Q (.int n) H) sLen := by
  intro H vs ps z Q h e o
  unfold sLen at e
  split at e
  · cases e
    obtain ⟨v, rfl, h1⟩ := rts1 h
    obtain ⟨a, ws, rfl, h2, r⟩ := h1.tup
    exact ⟨_, _, rfl, .inr ⟨ws, SqT.of h2, rfl⟩, by rw [r.length]; exact o _ H (.int _) (Same.refl H)⟩
  · cases e
    obtain ⟨v, rfl, h1⟩ := rts1 h
    obtain ⟨a, ws, rfl, h2, r⟩ := h1.lst
    exact ⟨_, _, rfl, .inl ⟨ws, h2, rfl⟩, by rw [r.length]; exact o _ H (.int _) (Same.refl H)⟩
  · cases e
    obtain ⟨v, rfl, h1⟩ := rts1 h
    obtain ⟨a, rfl, h2⟩ := h1.scr
    exact ⟨_, _, rfl, .inl ⟨_, h2.sq, rfl⟩, by rw [List.length_map]; exact o _ H (.int _) (Same.refl H)⟩
  · split at e
    · rename_i hz
      cases e
      obtain ⟨v, rfl, h1⟩ := rts1 h
      cases h1.str
      exact ⟨_, _, rfl, ⟨by rw [sizeLine_eq]; exact hz, rfl⟩, o _ H (.int _) (Same.refl H)⟩
    · cases e
  · cases e
def sAbs : List PV → Option PV
  | [.int i] => some (.int (if i < 0 then -i else i))
  | _ => none
theorem s_abs : SemA X Out (fun xs H Q => ∃ i, xs = [.int i] ∧ Q (.int (if i < 0 then -i else i)) H) sAbs := by
  intro H vs ps z Q h e o
  unfold sAbs at e
  split at e
  · cases e
    obtain ⟨v, rfl, h1⟩ := rts1 h
    cases h1.int
    exact ⟨_, rfl, o _ H (.int _) (Same.refl H)⟩
  · cases e
def sToInt : List PV → Option PV
  | [.int i] => some (.int i)
  | [.bl b] => some (.int (if b then 1 else 0))
  | _ => none
theorem s_toInt : SemA X Out (fun xs H Q => (∃ i, xs = [.int i] ∧ Q (.int i) H) ∨ ∃ k, xs = [.bl k] ∧ Q (.int (if k then 1 else 0)) H) sToInt := by
  intro H vs ps z Q h e o
  unfold sToInt at e
  split at e
  · cases e
    obtain ⟨v, rfl, h1⟩ := rts1 h
    cases h1.int
    exact .inl ⟨_, rfl, o _ H (.int _) (Same.refl H)⟩
  · cases e
    obtain ⟨v, rfl, h1⟩ := rts1 h
    cases h1.bl
    exact .inr ⟨_, rfl, o _ H (.int _) (Same.refl H)⟩
  · cases e
def sMax2 : List PV → Option PV
  | [.int i, .int j] => some (.int (if j > i then j else i))
  | _ => none
theorem s_max2 : SemA X Out (fun xs H Q => ∃ i j, xs = [.int i, .int j] ∧ Q (.int (if j > i then j else i)) H) sMax2 := by
  intro H vs ps z Q h e o
  unfold sMax2 at e
  split at e
  · cases e
    obtain ⟨v, w, rfl, h1, h2⟩ := rts2 h
    cases h1.int
    cases h2.int
    exact ⟨_, _, rfl, o _ H (.int _) (Same.refl H)⟩
  · cases e
def sMin2 : List PV → Option PV
  | [.int i, .int j] => some (.int (if j < i then j else i))
  | _ => none
theorem s_min2 : SemA X Out (fun xs H Q => ∃ i j, xs = [.int i, .int j] ∧ Q (.int (if j < i then j else i)) H) sMin2 := by
  intro H vs ps z Q h e o
  unfold sMin2 at e
  split at e
  · cases e
    obtain ⟨v, w, rfl, h1, h2⟩ := rts2 h
    cases h1.int
    cases h2.int
    exact ⟨_, _, rfl, o _ H (.int _) (Same.refl H)⟩
  · cases e
/-- whole numbers alone; truth values alone -/
def intsOf : List PV → Option (List Int)
  | [] => some []
  | .int i :: xs => (intsOf xs).map (i :: ·)
  | _ :: _ => none
def blsOf : List PV → Option (List Bool)
  | [] => some []
  | .bl b :: xs => (blsOf xs).map (b :: ·)
  | _ :: _ => none
theorem intsOf_eq : ∀ {xs : List PV} {ns : List Int}, intsOf xs = some ns → xs = ns.map PV.int
  | [], ns, e => by cases e; rfl
  | x :: xs, ns, e => by
    cases x <;> first | (cases e; done) | skip
    obtain ⟨ms, h1, h2⟩ := Option.map_eq_some_iff.mp e
    cases h2
    rw [intsOf_eq h1, List.map_cons]
theorem intsOf_map (ns : List Int) : intsOf (ns.map PV.int) = some ns := by
  induction ns with
  | nil => rfl
  | cons n ns ih => rw [List.map_cons, intsOf, ih]; rfl
theorem blsOf_eq : ∀ {xs : List PV} {ns : List Bool}, blsOf xs = some ns → xs = ns.map PV.bl
  | [], ns, e => by cases e; rfl
  | x :: xs, ns, e => by
    cases x <;> first | (cases e; done) | skip
    obtain ⟨ms, h1, h2⟩ := Option.map_eq_some_iff.mp e
    cases h2
    rw [blsOf_eq h1, List.map_cons]
theorem blsOf_map (ns : List Bool) : blsOf (ns.map PV.bl) = some ns := by
  induction ns with
  | nil => rfl
  | cons n ns ih => rw [List.map_cons, blsOf, ih]; rfl
def sSum : List PV → Option PV
  | [.lst xs] => (intsOf xs).map fun ns => .int ns.sum
  | _ => none
theorem s_sum : SemA X Out (rSum X.K) sSum := by
  intro H vs ps z Q h e o
  unfold sSum at e
  split at e
  · obtain ⟨ns, h3, h4⟩ := Option.map_eq_some_iff.mp e
    cases h4
    have e2 := intsOf_eq h3
    subst e2
    obtain ⟨v, rfl, h1⟩ := rts1 h
    obtain ⟨a, ws, rfl, h2, r⟩ := h1.lst
    rw [r.ints] at h2
    exact ⟨a, ns, rfl, h2, o _ H (.int _) (Same.refl H)⟩
  · cases e
def sAny : List PV → Option PV
  | [.lst xs] => (blsOf xs).map fun bs => .bl (bs.any id)
  | _ => none
theorem s_any : SemA X Out (rAny X.K) sAny := by
  intro H vs ps z Q h e o
  unfold sAny at e
  split at e
  · obtain ⟨ns, h3, h4⟩ := Option.map_eq_some_iff.mp e
    cases h4
    have e2 := blsOf_eq h3
    subst e2
    obtain ⟨v, rfl, h1⟩ := rts1 h
    obtain ⟨a, ws, rfl, h2, r⟩ := h1.lst
    rw [r.bls] at h2
    exact ⟨a, ns, rfl, h2, o _ H (.bl _) (Same.refl H)⟩
  · cases e
def sAll : List PV → Option PV
  | [.lst xs] => (blsOf xs).map fun bs => .bl (bs.all id)
  | _ => none
theorem s_all : SemA X Out (rAll X.K) sAll := by
  intro H vs ps z Q h e o
  unfold sAll at e
  split at e
  · obtain ⟨ns, h3, h4⟩ := Option.map_eq_some_iff.mp e
    cases h4
    have e2 := blsOf_eq h3
    subst e2
    obtain ⟨v, rfl, h1⟩ := rts1 h
    obtain ⟨a, ws, rfl, h2, r⟩ := h1.lst
    rw [r.bls] at h2
    exact ⟨a, ns, rfl, h2, o _ H (.bl _) (Same.refl H)⟩
  · cases e
/-- tuple(x), list(x) of a list, a tuple -/
def sTuple : List PV → Option PV
  | [.lst xs] => some (.tup xs)
  | [.tup xs] => some (.tup xs)
  | _ => none
theorem s_tuple : SemA X Out (fun xs H Q => ∃ p ys, xs = [.ref p] ∧ ((SqL X.K H p ys ∧ ∀ l, H l = none → Q (.ref l) (upd H l (.tup ys))) ∨ (SqT X.K H p ys ∧ Q (.ref p) H))) sTuple := by
  intro H vs ps z Q h e o
  unfold sTuple at e
  split at e
  · cases e
    obtain ⟨v, rfl, h1⟩ := rts1 h
    obtain ⟨a, ws, rfl, h2, r⟩ := h1.lst
    refine ⟨a, ws, rfl, .inl ⟨h2, fun t ht => ?_⟩⟩
    have sm := same_upd (u := .tup ws) ht
    exact o _ _ (.tup upd_same (r.ext (Ext.of_same sm))) sm
  · cases e
    obtain ⟨v, rfl, h1⟩ := rts1 h
    obtain ⟨a, ws, rfl, h2, r⟩ := h1.tup
    exact ⟨a, ws, rfl, .inr ⟨SqT.of h2, o _ H (.tup h2 r) (Same.refl H)⟩⟩
  · cases e
def sList : List PV → Option PV
  | [.lst xs] => some (.lst xs)
  | [.tup xs] => some (.lst xs)
  | _ => none
theorem s_list : SemA X OutL (fun xs H Q => ∃ p ys, xs = [.ref p] ∧ (SqL X.K H p ys ∨ SqT X.K H p ys) ∧ ∀ l, H l = none → Q (.ref l) (upd H l (.lst ys))) sList := by
  intro H vs ps z Q h e o
  unfold sList at e
  split at e
  · cases e
    obtain ⟨v, rfl, h1⟩ := rts1 h
    obtain ⟨a, ws, rfl, h2, r⟩ := h1.lst
    refine ⟨a, ws, rfl, .inl h2, fun t ht => ?_⟩
    have sm := same_upd (u := .lst ws) ht
    exact o t _ _ ht upd_same (r.ext (Ext.of_same sm)) sm
  · cases e
    obtain ⟨v, rfl, h1⟩ := rts1 h
    obtain ⟨a, ws, rfl, h2, r⟩ := h1.tup
    refine ⟨a, ws, rfl, .inr (SqT.of h2), fun t ht => ?_⟩
    have sm := same_upd (u := .lst ws) ht
    exact o t _ _ ht upd_same (r.ext (Ext.of_same sm)) sm
  · cases e

/-! ### isinstance of a built-in type -/
inductive Ty where
  | int | bool | str | tuple | list | dict
def Ty.name : Ty → String
  | .int => "int"
  | .bool => "bool"
  | .str => "str"
  | .tuple => "tuple"
  | .list => "list"
  | .dict => "dict"
inductive Kd where
  | non | bl | int | str | tup | lst | dic
def Kd.name : Kd → String
  | .non => "NoneType"
  | .bl => "bool"
  | .int => "int"
  | .str => "str"
  | .tup => "tuple"
  | .lst => "list"
  | .dic => "dict"
def kdOf : PV → Kd
  | .non => .non
  | .bl _ => .bl
  | .int _ => .int
  | .str _ => .str
  | .tup _ => .tup
  | .lst _ => .lst
  | .dk _ => .dic
  | .dt _ => .dic
  | .scr _ => .lst
def isTyK : Ty → Kd → Bool
  | .int, .int => true
  | .int, .bl => true
  | .bool, .bl => true
  | .str, .str => true
  | .tuple, .tup => true
  | .list, .lst => true
  | .dict, .dic => true
  | _, _ => false
def isTy (T : Ty) (x : PV) : Bool := isTyK T (kdOf x)
def tyName (x : PV) : String := (kdOf x).name
theorem kitK (T : Ty) (k : Kd) : kitB k.name T.name = some (isTyK T k) := by
  cases T <;> cases k <;> decide +kernel
theorem kitTy (T : Ty) (x : PV) : kitB (tyName x) T.name = some (isTy T x) := kitK T (kdOf x)
def TyP (K : PySem.W.Frag) (H : Hp) (v : V) (t : String) : Prop := TyX K H v (.type t) ∨ ∃ a o kvs, v = .ref a ∧ H a = some (.frz o (.dT kvs)) ∧ t = "dict"
theorem rt_ty {v : V} {x : PV} (h : RT K H v x) : TyP K H v (tyName x) := by
  cases x with
  | non => rw [h.non]; exact .inl (.base .non)
  | bl b => rw [h.bl]; exact .inl (.base (.bl b))
  | int i => rw [h.int]; exact .inl (.base (.int i))
  | str z => rw [h.str]; exact .inl (.base (.str z))
  | tup xs => obtain ⟨a, ws, rfl, h2, r⟩ := h.tup; exact .inl (.base (.tup h2))
  | lst xs =>
    obtain ⟨a, ws, rfl, h2, r⟩ := h.lst
    rcases h2 with (h2 | ⟨o, h2⟩) | ⟨o, its, n, hk, hc, _⟩
    · exact .inl (.base (.lst h2))
    · exact .inl (.base (.frz h2))
    · exact .inl (.kList hk hc)
  | scr xs =>
    obtain ⟨a, rfl, h2⟩ := h.scr
    rcases h2 with ⟨o, h2⟩ | ⟨o, its, n, hk, hc, _⟩
    · exact .inl (.base (.frz h2))
    · exact .inl (.kList hk hc)
  | dk xs =>
    obtain ⟨a, ws, rfl, h2, r⟩ := h.dk
    rcases h2 with h2 | ⟨o, h2⟩
    · exact .inl (.base (.dK h2))
    · exact .inl (.fDict h2)
  | dt xs =>
    obtain ⟨a, ws, rfl, h2, r⟩ := h.dt
    rcases h2 with h2 | ⟨o, h2⟩
    · exact .inl (.base (.dT h2))
    · exact .inr ⟨a, o, ws, rfl, h2, rfl⟩
def rIsP (K : PySem.W.Frag) : List V → Hp → VK → Prop := fun xs H Q => ∃ (x : V) (T t : String) (b : Bool), xs = [x, .ty T] ∧ TyP K H x t ∧ kitB t T = some b ∧ Q (.bl b) H
theorem call_isP : CallR X (.builtin "isinstance") (rIsP X.K) := by
  intro pins s σ H xs us Q I r h
  obtain ⟨x, T, t, b, rfl, ty, e, q⟩ := h
  obtain ⟨u1, u2, rfl, r1, r2⟩ := vals2 r
  cases (show u2 = Value.type T from r2)
  rcases ty with ty | ⟨a, o, kvs, rfl, ha, rfl⟩
  · obtain ⟨P, Z, p, hx⟩ := kit_of I r1 ty
    exact PySem.W.kia_one Z I.kIn p (kit_ty e) hx fun tk => ⟨.bl b, H, I.tok tk, rfl, q⟩
  · cases (show u1 = Value.ref a from r1)
    obtain ⟨_, _, _, xs, _, o, es, ep, h1, h2, _⟩ := (show ObjOk X.prog X.w H s.heap a (.frz o (.dT kvs)) from I.hok a _ ha)
    exact PySem.W.kia_one PySem.W.kitx_dict I.kIn ⟨o, h1, h2.1⟩ (kit_ty e) (fun z => nomatch z) fun tk => ⟨.bl b, H, I.tok tk, rfl, q⟩
def isiF (T : Ty) (f : Sk → R OV) : Sk → R PV := op1 (fun x => some (.bl (isTy T x))) f
theorem ev_isi {T : Ty} {a c : Expr} {fo : Sk → R OV} {x : Str} {p pos : Pos} (hg : Gl X x) (hm : X.mg x = none) (hv : bootBuiltins x = some (.builtin "isinstance")) (ha : EO X W a fo) (hc : PE X c (tC (.ty T.name))) (hn : x ≠ "__name__") (hdb : (x == ("__debug__" : Str)) = false)
    (h1 : starEach [a, c] X.env = (false, eval a X.env) :: starEach [c] X.env) (h2 : starEach [c] X.env = (false, eval c X.env) :: starEach [] X.env) (hpl : (backTo pos (starEach [c] X.env)).any (·.1) = false) :
    EV X W (.Call (.Name x p) [a, c] [] pos) (isiF T fo) := by
  refine ⟨PE.imp (pe_callB call_isP hg hm hv (pa_cons ha.pe (pa_cons hc pa_nil h2) h1) hn hdb h1 hpl) fun σ H Q ⟨S, R0, q⟩ => ⟨S, R0, ?_⟩⟩
  unfold isiF op1 at q
  cases hf : fo S with
  | stuck => rw [hf] at q; exact q
  | exc y S1 => rw [hf] at q; exact q
  | ok y S1 =>
    rw [hf, R.bind_ok] at q
    intro v H1 ov R1 F1
    split at q
    · rename_i z hz
      exact ⟨v, T.name, tyName z, isTy T z, rfl, rt_ty (look_rt R1 ov hz), kitTy T z, post_out (r := .stuck) R1 F1 q _ H1 (.bl _) (Same.refl H1)⟩
    · exact (show False from q).elim
end
end VL

set_option Elab.async false
set_option linter.all false
set_option autoImplicit false
set_option maxRecDepth 100000
set_option maxHeartbeats 4000000
/-! VL4: statements, targets, what changes an object of ours. -/
namespace VL
open PySem L2

inductive RV where
  | v (x : PV) | l (x : PV)
inductive O where
  | stuck | nx (S : Sk) | rt (r : RV) (S : Sk) | bk (S : Sk) | ct (S : Sk) | exc (e : Exn) (S : Sk)
section
variable {X : Cx} {W : WX} {K : PySem.W.Frag} {mg : Str → Option Value} {S S1 S' : Sk} {σ σ1 σ' : St} {H H1 H' : Hp}

def PostS (K : PySem.W.Frag) (mg : Str → Option Value) (W : WX) (S : Sk) (σ : St) (H : Hp) (r : O) (D : Ends) : Prop := match r with
  | .stuck => False
  | .nx S' => ∀ σ' H', RelS K S' σ' H' → Frm S σ H S' σ' H' → D.nx σ' H'
  | .bk S' => ∀ σ' H', RelS K S' σ' H' → Frm S σ H S' σ' H' → D.bk σ' H'
  | .ct S' => ∀ σ' H', RelS K S' σ' H' → Frm S σ H S' σ' H' → D.ct σ' H'
  | .rt (.v x) S' => ∀ v σ' H', Rep K H' v x → RelS K S' σ' H' → Frm S σ H S' σ' H' → D.rt v H'
  | .rt (.l x) S' => ∀ p u σ' H', H' p = some u → RepOb K H' u x → ¬ Owns S' σ' p → (∀ o, H p = some o → Owns S σ p) → RelS K S' σ' H' → Frm S σ H S' σ' H' → D.rt (.ref p) H'
  | .exc e S' => ∀ cls d σ' H', ExnRep K mg H' cls d e → RelS K S' σ' H' → Frm S σ H S' σ' H' → W cls d σ' H'
def LiftS (K : PySem.W.Frag) (mg : Str → Option Value) (W : WX) (F : Sk → O) : TS := fun D σ H => ∃ S, RelS K S σ H ∧ PostS K mg W S σ H (F S) D
structure VS (X : Cx) (W : WX) (st : Stmt) (F : Sk → O) : Prop where
  ps : PS X st (LiftS X.K X.mg W F)
structure VSs (X : Cx) (W : WX) (st : List Stmt) (F : Sk → O) : Prop where
  ps : PSs X st (LiftS X.K X.mg W F)
theorem PS.imp {st : Stmt} {t t' : TS} (h : PS X st t) (i : ∀ D σ H, t' D σ H → t D σ H) : PS X st t' := ⟨fun pins s σ H D I q => h.run pins s σ H D I (i D σ H q)⟩
theorem PSs.imp {st : List Stmt} {t t' : TS} (h : PSs X st t) (i : ∀ D σ H, t' D σ H → t D σ H) : PSs X st t' := ⟨fun pins s σ H D I q => h.run pins s σ H D I (i D σ H q)⟩
/-- from a later state on -/
theorem PostS.step {r : O} {D : Ends} (q : PostS K mg W S σ H r D) (F : Frm S σ H S1 σ1 H1) : PostS K mg W S1 σ1 H1 r D := by
  cases r with
  | stuck => exact q
  | nx S' => exact fun σ' H' R G => q σ' H' R (F.trans G)
  | bk S' => exact fun σ' H' R G => q σ' H' R (F.trans G)
  | ct S' => exact fun σ' H' R G => q σ' H' R (F.trans G)
  | rt r S' =>
    cases r with
    | v x => exact fun v σ' H' rv R G => q v σ' H' rv R (F.trans G)
    | l x =>
      intro p u σ' H' h1 h2 h3 h4 R G
      refine q p u σ' H' h1 h2 h3 (fun o ho => ?_) R (F.trans G)
      by_cases hw : Owns S σ p
      · exact hw
      · have z := F.keep p o ho hw
        exact absurd (h4 o z.1) z.2
  | exc e S' => exact fun c d σ' H' er R G => q c d σ' H' er R (F.trans G)

/-! ### slots are set -/
theorem get_set {α : Type} {l : List α} {i j : Nat} {x y : α} (h : (l.set i x)[j]? = some y) : (i = j ∧ y = x) ∨ (i ≠ j ∧ l[j]? = some y) := by
  by_cases e : i = j
  · subst e
    left
    refine ⟨rfl, ?_⟩
    by_cases hl : i < l.length
    · rw [List.getElem?_set_self hl] at h; exact (Option.some.inj h).symm
    · rw [List.getElem?_eq_none (by simpa using hl)] at h; cases h
  · right
    rw [List.getElem?_set_ne e] at h
    exact ⟨e, h⟩
theorem RelS.setVal (R : RelS K S σ H) {i : Nat} {x : PV} {v : V} (r : Rep K H v x) : RelS K (S.set i (.val x)) (σ.set i (some v)) H := by
  refine ⟨by rw [List.length_set, List.length_set]; exact R.len, fun j s h => ?_, fun j k s t a h1 h2 o1 o2 e1 e2 => ?_⟩
  · rcases get_set h with ⟨rfl, rfl⟩ | ⟨ne, h⟩
    · have hl : i < S.length := by
        have := (List.getElem?_eq_some_iff.mp h).1
        simpa using this
      exact ⟨v, List.getElem?_set_self (by rw [R.len]; exact hl), r⟩
    · rw [List.getElem?_set_ne ne]
      exact R.sl j s h
  · rcases get_set h1 with ⟨rfl, rfl⟩ | ⟨n1, h1⟩
    · cases o1
    · rcases get_set h2 with ⟨rfl, rfl⟩ | ⟨n2, h2⟩
      · cases o2
      · rw [List.getElem?_set_ne n1] at e1
        rw [List.getElem?_set_ne n2] at e2
        exact R.dj j k s t a h1 h2 o1 o2 e1 e2
def unpinned (S : Sk) (i : Nat) : Bool := match S[i]? with
  | some s => !pinned s
  | none => false
theorem Frm.setVal {i : Nat} {x : PV} {v : V} : Frm S σ H (S.set i (.val x)) (σ.set i (some v)) H := by
  refine ⟨fun a o h n => ⟨h, fun ⟨j, s, h1, h2, h3⟩ => ?_⟩, fun j s h p => ?_⟩
  · rcases get_set h1 with ⟨rfl, rfl⟩ | ⟨ne, h1⟩
    · cases h2
    · rw [List.getElem?_set_ne ne] at h3
      exact n ⟨j, s, h1, h2, h3⟩
  · rcases get_set h with ⟨rfl, rfl⟩ | ⟨ne, h⟩
    · cases p
    · exact ⟨⟨s, h, p⟩, List.getElem?_set_ne ne⟩
theorem RelS.setOwn (R : RelS K S σ H) {i : Nat} {x : PV} {p : Addr} {u : HO} (hu : H p = some u) (r : RepOb K H u x) (hn : ¬ Owns S σ p) : RelS K (S.set i (.own x)) (σ.set i (some (.ref p))) H := by
  refine ⟨by rw [List.length_set, List.length_set]; exact R.len, fun j s h => ?_, fun j k s t a h1 h2 o1 o2 e1 e2 => ?_⟩
  · rcases get_set h with ⟨rfl, rfl⟩ | ⟨ne, h⟩
    · have hl : i < S.length := by
        have := (List.getElem?_eq_some_iff.mp h).1
        simpa using this
      exact ⟨p, u, List.getElem?_set_self (by rw [R.len]; exact hl), hu, r⟩
    · rw [List.getElem?_set_ne ne]
      exact R.sl j s h
  · rcases get_set h1 with ⟨rfl, rfl⟩ | ⟨n1, h1'⟩
    · rcases get_set h2 with ⟨rfl, rfl⟩ | ⟨n2, h2'⟩
      · rfl
      · rw [List.getElem?_set_ne n2] at e2
        rcases get_set e1 with ⟨_, z⟩ | ⟨z, _⟩
        · cases z
          exact absurd ⟨k, t, h2', o2, e2⟩ hn
        · exact absurd rfl z
    · rw [List.getElem?_set_ne n1] at e1
      rcases get_set h2 with ⟨rfl, rfl⟩ | ⟨n2, h2'⟩
      · rcases get_set e2 with ⟨_, z⟩ | ⟨z, _⟩
        · cases z
          exact absurd ⟨j, s, h1', o1, e1⟩ hn
        · exact absurd rfl z
      · rw [List.getElem?_set_ne n2] at e2
        exact R.dj j k s t a h1' h2' o1 o2 e1 e2
/-- a new object is stored: what stood before and was not ours is not it -/
theorem Frm.setOwn {i : Nat} {x : PV} {p : Addr} (F : Frm S σ H S1 σ1 H1) (hp : ∀ o, H p = some o → Owns S σ p) : Frm S σ H (S1.set i (.own x)) (σ1.set i (some (.ref p))) H1 := by
  refine ⟨fun a o h n => ?_, fun j s h pn => ?_⟩
  · have z := F.keep a o h n
    refine ⟨z.1, fun ⟨j, s, h1, h2, h3⟩ => ?_⟩
    rcases get_set h1 with ⟨rfl, rfl⟩ | ⟨ne, h1⟩
    · rcases get_set h3 with ⟨_, e⟩ | ⟨e, _⟩
      · cases e
        exact n (hp o h)
      · exact absurd rfl e
    · rw [List.getElem?_set_ne ne] at h3
      exact z.2 ⟨j, s, h1, h2, h3⟩
  · rcases get_set h with ⟨rfl, rfl⟩ | ⟨ne, h⟩
    · cases pn
    · rw [List.getElem?_set_ne ne]
      exact F.io j s h pn

/-! ### small statements -/
def seqF (F G : Sk → O) : Sk → O := fun S => match F S with
  | .nx S1 => G S1
  | .stuck => .stuck
  | .rt r S1 => .rt r S1
  | .bk S1 => .bk S1
  | .ct S1 => .ct S1
  | .exc e S1 => .exc e S1
def nxF : Sk → O := fun S => .nx S
variable {st : Stmt} {sts : List Stmt} {F G : Sk → O} {e : Expr} {f : Sk → R PV} {pos : Pos}
theorem vss_nil : VSs X W [] nxF := ⟨PSs.imp pss_nil fun D σ H ⟨S, R0, q⟩ => q σ H R0 .refl⟩
theorem vss_cons (h1 : VS X W st F) (h2 : VSs X W sts G) : VSs X W (st :: sts) (seqF F G) := by
  refine ⟨PSs.imp (pss_cons h1.ps h2.ps) fun D σ H ⟨S, R0, q⟩ => ⟨S, R0, ?_⟩⟩
  unfold seqF at q
  cases hF : F S with
  | nx S1 => rw [hF] at q; exact fun σ1 H1 R1 F1 => ⟨S1, R1, q.step F1⟩
  | stuck => rw [hF] at q; exact q
  | rt r S1 => rw [hF] at q; cases r <;> exact q
  | bk S1 => rw [hF] at q; exact q
  | ct S1 => rw [hF] at q; exact q
  | exc e S1 => rw [hF] at q; exact q
theorem vss_one (h1 : VS X W st F) : VSs X W [st] F := ⟨pss_one h1.ps⟩
theorem vs_pass : VS X W (.Pass pos) nxF := ⟨PS.imp ps_pass fun D σ H ⟨S, R0, q⟩ => q σ H R0 .refl⟩
def bkF : Sk → O := fun S => .bk S
def ctF : Sk → O := fun S => .ct S
theorem vs_break : VS X W (.Break pos) bkF := ⟨PS.imp ps_break fun D σ H ⟨S, R0, q⟩ => q σ H R0 .refl⟩
theorem vs_continue : VS X W (.Continue pos) ctF := ⟨PS.imp ps_continue fun D σ H ⟨S, R0, q⟩ => q σ H R0 .refl⟩
/-- from a reckoning on -/
def R.toO {α : Type} (r : R α) (f : α → Sk → O) : O := match r with
  | .stuck => .stuck
  | .ok a S => f a S
  | .exc e S => .exc e S
@[simp] theorem R.toO_ok {α : Type} (a : α) (S : Sk) (f : α → Sk → O) : (R.ok a S).toO f = f a S := rfl
@[simp] theorem R.toO_stuck {α : Type} (f : α → Sk → O) : (R.stuck : R α).toO f = .stuck := rfl
@[simp] theorem R.toO_exc {α : Type} (e : Exn) (S : Sk) (f : α → Sk → O) : (R.exc e S : R α).toO f = .exc e S := rfl
def exprF (f : Sk → R PV) : Sk → O := fun S => (f S).toO fun _ S1 => .nx S1
theorem vs_expr (h : EV X W e f) (hs : swapsWith e none pos.line X.env = pure false) : VS X W (.Expr e pos) (exprF f) := by
  refine ⟨PS.imp (ps_expr h.pe hs) fun D σ H ⟨S, R0, q⟩ => ⟨S, R0, ?_⟩⟩
  unfold exprF at q
  cases hf : f S with
  | stuck => rw [hf] at q; exact q
  | exc y S1 => rw [hf] at q; exact fun c d H1 er R1 F1 => q c d σ H1 er R1 F1
  | ok x S1 => rw [hf] at q; exact fun v H1 rv R1 F1 => q σ H1 R1 F1
theorem vs_doc {x : Str} {j : Nat} {pos' : Pos} : VS X W (.Expr (.Constant (.str x) j pos) pos') nxF := ⟨PS.imp ps_doc fun D σ H ⟨S, R0, q⟩ => q σ H R0 .refl⟩
def retF (f : Sk → R PV) : Sk → O := fun S => (f S).toO fun x S1 => .rt (.v x) S1
def retLF (f : Sk → R PV) : Sk → O := fun S => (f S).toO fun x S1 => .rt (.l x) S1
def retNF : Sk → O := fun S => .rt (.v .non) S
theorem vs_ret (h : EV X W e f) : VS X W (.Return (some e) pos) (retF f) := by
  refine ⟨PS.imp (ps_ret h.pe) fun D σ H ⟨S, R0, q⟩ => ⟨S, R0, ?_⟩⟩
  unfold retF at q
  cases hf : f S with
  | stuck => rw [hf] at q; exact q
  | exc y S1 => rw [hf] at q; exact fun c d H1 er R1 F1 => q c d σ H1 er R1 F1
  | ok x S1 => rw [hf] at q; exact fun v H1 rv R1 F1 => q v σ H1 rv R1 F1
theorem vs_retL (h : EL X W e f) : VS X W (.Return (some e) pos) (retLF f) := by
  refine ⟨PS.imp (ps_ret h.pe) fun D σ H ⟨S, R0, q⟩ => ⟨S, R0, ?_⟩⟩
  unfold retLF at q
  cases hf : f S with
  | stuck => rw [hf] at q; exact q
  | exc y S1 => rw [hf] at q; exact fun c d H1 er R1 F1 => q c d σ H1 er R1 F1
  | ok x S1 => rw [hf] at q; exact fun p u H1 h1 h2 h3 h4 R1 F1 => q p u σ H1 h1 h2 h3 h4 R1 F1
theorem vs_retN : VS X W (.Return none pos) retNF := ⟨PS.imp ps_retN fun D σ H ⟨S, R0, q⟩ => q .non σ H .non R0 .refl⟩
def ifS (c : Sk → R Bool) (F G : Sk → O) : Sk → O := fun S => (c S).toO fun b S1 => if b = true then F S1 else G S1
variable {c : Expr} {gc : Sk → R Bool} {as bs : List Stmt}
theorem vs_if (hc : ET X W c gc) (ha : VSs X W as F) (hb : VSs X W bs G) : VS X W (.If c as bs pos) (ifS gc F G) := by
  refine ⟨PS.imp (ps_if hc.pt ha.ps hb.ps) fun D σ H ⟨S, R0, q⟩ => ⟨S, R0, ?_⟩⟩
  unfold ifS at q
  cases hf : gc S with
  | stuck => rw [hf] at q; exact q
  | exc y S1 => rw [hf] at q; exact fun c d H1 er R1 F1 => q c d σ H1 er R1 F1
  | ok x S1 =>
    rw [hf, R.toO_ok] at q
    intro H1 R1 F1
    cases x with
    | true => exact ⟨S1, R1, (show PostS X.K X.mg W S σ H (F S1) D from q).step F1⟩
    | false => exact ⟨S1, R1, (show PostS X.K X.mg W S σ H (G S1) D from q).step F1⟩

/-! ### targets -/
def Off (ts : List Nat) (σ σ' : St) : Prop := σ'.length = σ.length ∧ ∀ i, i ∉ ts → σ'[i]? = σ[i]?
theorem Off.refl {ts : List Nat} {σ : St} : Off ts σ σ := ⟨rfl, fun _ _ => rfl⟩
theorem Off.trans {ts : List Nat} {σ σ1 σ2 : St} (a : Off ts σ σ1) (b : Off ts σ1 σ2) : Off ts σ σ2 := ⟨b.1.trans a.1, fun i h => (b.2 i h).trans (a.2 i h)⟩
theorem Off.mono {ts us : List Nat} {σ σ' : St} (h : ∀ i ∈ ts, i ∈ us) (a : Off ts σ σ') : Off us σ σ' := ⟨a.1, fun i n => a.2 i fun z => n (h i z)⟩
def LiftG (K : PySem.W.Frag) (ts : List Nat) (g : PV → Sk → Option Sk) : TG := fun v σ H Q => ∃ S x, RelS K S σ H ∧ Rep K H v x ∧ match g x S with
  | none => False
  | some S' => ∀ σ' H', RelS K S' σ' H' → Frm S σ H S' σ' H' → Off ts σ σ' → Q σ' H'
structure EG (X : Cx) (tg : Expr) (ts : List Nat) (g : PV → Sk → Option Sk) : Prop where
  pg : PG X tg (LiftG X.K ts g)
theorem PG.imp {tg : Expr} {t t' : TG} (h : PG X tg t) (i : ∀ v σ H Q, t' v σ H Q → t v σ H Q) : PG X tg t' := ⟨fun pins s σ H v u Q I r q => h.run pins s σ H v u Q I r (i v σ H Q q)⟩
def gSet (i : Nat) : PV → Sk → Option Sk := fun x S => if unpinned S i = true then some (S.set i (.val x)) else none
theorem off_set {i : Nat} {o : Option V} : Off [i] σ (σ.set i o) := ⟨List.length_set, fun j h => List.getElem?_set_ne (fun e => h (by simp [e]))⟩
theorem eg_name {i : Nat} {tg : Expr} (h : PG X tg (gName i)) : EG X tg [i] (gSet i) := by
  refine ⟨PG.imp h fun v σ H Q ⟨S, x, R0, r, q⟩ => ?_⟩
  unfold gSet at q
  split at q
  · exact (show False from q).elim
  · rename_i S' e
    split at e
    · cases e
      exact q _ H (R0.setVal r) .setVal off_set
    · cases e
def LiftGs (K : PySem.W.Frag) (us : List Nat) (g : List PV → Sk → Option Sk) : TGs := fun vs σ H Q => ∃ S xs, RelS K S σ H ∧ RepA K H vs xs ∧ match g xs S with
  | none => False
  | some S' => ∀ σ' H', RelS K S' σ' H' → Frm S σ H S' σ' H' → Off us σ σ' → Q σ' H'
structure EGs (X : Cx) (ts : List Expr) (us : List Nat) (g : List PV → Sk → Option Sk) : Prop where
  pg : PGs X ts (LiftGs X.K us g)
theorem PGs.imp {ts : List Expr} {t t' : TGs} (h : PGs X ts t) (i : ∀ v σ H Q, t' v σ H Q → t v σ H Q) : PGs X ts t' := ⟨fun pins s σ H v u Q I r q => h.run pins s σ H v u Q I r (i v σ H Q q)⟩
def gsNil : List PV → Sk → Option Sk := fun xs S => match xs with
  | [] => some S
  | _ => none
def gsCons (g : PV → Sk → Option Sk) (r : List PV → Sk → Option Sk) : List PV → Sk → Option Sk := fun xs S => match xs with
  | x :: xs => (match g x S with
    | some S1 => r xs S1
    | none => none)
  | [] => none
theorem egs_nil : EGs X [] [] gsNil := by
  refine ⟨PGs.imp pgs_nil fun vs σ H Q ⟨S, xs, R0, r, q⟩ => ?_⟩
  cases r with
  | nil => exact ⟨rfl, q σ H R0 .refl .refl⟩
  | cons a b => exact (show False from q).elim
theorem egs_cons {tg : Expr} {ts : List Expr} {us ws : List Nat} {g : PV → Sk → Option Sk} {r : List PV → Sk → Option Sk} (h1 : EG X tg us g) (h2 : EGs X ts ws r) (hs : (assignEach (tg :: ts) X.env).map (·.2) = assign tg X.env :: (assignEach ts X.env).map (·.2)) :
    EGs X (tg :: ts) (us ++ ws) (gsCons g r) := by
  refine ⟨PGs.imp (pgs_cons h1.pg h2.pg hs) fun vs σ H Q ⟨S, xs, R0, rr, q⟩ => ?_⟩
  cases rr with
  | nil => exact (show False from q).elim
  | @cons v vs x xs a b =>
    refine ⟨v, vs, rfl, S, x, R0, a, ?_⟩
    have q' : match (match g x S with
      | some S1 => r xs S1
      | none => none) with
      | none => False
      | some S' => ∀ σ' H', RelS X.K S' σ' H' → Frm S σ H S' σ' H' → Off (us ++ ws) σ σ' → Q σ' H' := q
    cases hg : g x S with
    | none => rw [hg] at q'; exact q'
    | some S1 =>
      rw [hg] at q'
      dsimp only at q'
      intro σ1 H1 R1 F1 O1
      refine ⟨S1, xs, R1, b.ext (R0.ext F1), ?_⟩
      cases hr : r xs S1 with
      | none => rw [hr] at q'; exact q'
      | some S2 => rw [hr] at q'; exact fun σ2 H2 R2 F2 O2 => q' σ2 H2 R2 (F1.trans F2) ((O1.mono fun i z => List.mem_append_left _ z).trans (O2.mono fun i z => List.mem_append_right _ z))
def gTupF (n : Nat) (g : List PV → Sk → Option Sk) : PV → Sk → Option Sk := fun x S => match x with
  | .tup xs => if xs.length = n then g xs S else none
  | _ => none
theorem eg_tup {es : List Expr} {us : List Nat} {k n : Nat} {g : List PV → Sk → Option Sk} (hc : X.calm = true) (h : EGs X es us g) (hn : (assignEach es X.env).length = n) (hst : (assignEach es X.env).findIdx? (·.1) = none) : EG X (.Tuple es k pos) us (gTupF n g) := by
  refine ⟨PG.imp (pg_tup hc h.pg hn hst) fun v σ H Q ⟨S, x, R0, r, q⟩ => ?_⟩
  cases x <;> first | exact (show False from q).elim | skip
  rename_i xs
  cases r with
  | tup h1 r1 =>
    have q' : match (if xs.length = n then g xs S else none) with
      | none => False
      | some S' => ∀ σ' H', RelS X.K S' σ' H' → Frm S σ H S' σ' H' → Off us σ σ' → Q σ' H' := q
    by_cases hl : xs.length = n
    · rw [if_pos hl] at q'
      exact ⟨_, _, rfl, SqT.of h1, r1.length.trans hl, S, xs, R0, r1, q'⟩
    · rw [if_neg hl] at q'
      exact q'.elim
def asgF (f : Sk → R PV) (g : PV → Sk → Option Sk) : Sk → O := fun S => (f S).toO fun x S1 => match g x S1 with
  | some S2 => .nx S2
  | none => .stuck
theorem asg_lift {us : List Nat} {g : PV → Sk → Option Sk} {D : Ends} (h : LiftS K mg W (asgF f g) D σ H) : LiftE K mg W f σ H fun x H1 => LiftG K us g x σ H1 D.nx := by
  obtain ⟨S, R0, q⟩ := h
  refine ⟨S, R0, ?_⟩
  unfold asgF at q
  cases hf : f S with
  | stuck => rw [hf] at q; exact q
  | exc y S1 => rw [hf] at q; exact fun c d H1 er R1 F1 => q c d σ H1 er R1 F1
  | ok x S1 =>
    rw [hf, R.toO_ok] at q
    intro v H1 rv R1 F1
    refine ⟨S1, x, R1, rv, ?_⟩
    cases hg : g x S1 with
    | none => rw [hg] at q; exact q
    | some S2 => rw [hg] at q; exact fun σ2 H2 R2 F2 _ => q σ2 H2 R2 (F1.trans F2)
theorem vs_asg {tg : Expr} {us : List Nat} {g : PV → Sk → Option Sk} (he : EV X W e f) (hg : EG X tg us g) (hs : swapsWithSole [tg] e pos.line X.env = pure false) (hw : swappedStores [tg] e X.env = pure none) (h1 : (assignEach [tg] X.env).map (·.2) = [assign tg X.env]) :
    VS X W (.Assign [tg] e pos) (asgF f g) := ⟨PS.imp (ps_asg he.pe hg.pg hs hw h1) fun D σ H h => asg_lift h⟩
theorem gset_lift {i : Nat} {D : Ends} (h : LiftS K mg W (asgF f (gSet i)) D σ H) : LiftE K mg W f σ H fun x H1 => gName i x σ H1 D.nx := by
  obtain ⟨S, R0, q⟩ := asg_lift (us := [i]) h
  refine ⟨S, R0, ?_⟩
  cases hf : f S with
  | stuck => rw [hf] at q; exact q
  | exc y S1 => rw [hf] at q; exact q
  | ok x S1 =>
    rw [hf] at q
    intro v H1 rv R1 F1
    obtain ⟨S2, y, R2, rv2, z⟩ := q v H1 rv R1 F1
    unfold gSet at z
    split at z
    · exact z.elim
    · rename_i S3 e
      split at e
      · cases e
        exact z _ H1 (R2.setVal rv2) .setVal off_set
      · cases e
theorem vs_set {i : Nat} {te : TE} {target : Expr} (h : PS X (.Assign [target] e pos) (tAsg (LiftE X.K X.mg W f) (gName i))) : VS X W (.Assign [target] e pos) (asgF f (gSet i)) :=
  ⟨PS.imp h fun D σ H h => gset_lift h⟩
/-- x = [..]: an object of ours -/
def ownF (f : Sk → R PV) (i : Nat) : Sk → O := fun S => (f S).toO fun x S1 => if unpinned S1 i = true then .nx (S1.set i (.own x)) else .stuck
theorem vs_own {i : Nat} {target : Expr} (h : PS X (.Assign [target] e pos) (tAsg (LiftL X.K X.mg W f) (gName i))) : VS X W (.Assign [target] e pos) (ownF f i) := by
  refine ⟨PS.imp h fun D σ H ⟨S, R0, q⟩ => ⟨S, R0, ?_⟩⟩
  unfold ownF at q
  cases hf : f S with
  | stuck => rw [hf] at q; exact q
  | exc y S1 => rw [hf] at q; exact fun c d H1 er R1 F1 => q c d σ H1 er R1 F1
  | ok x S1 =>
    rw [hf, R.toO_ok] at q
    intro p u H1 h1 h2 h3 h4 R1 F1
    split at q
    · exact q _ H1 (R1.setOwn h1 h2 h3) (F1.setOwn h4)
    · exact (show False from q).elim
/-- a, b = x, y by plain local names -/
def parF (i j : Nat) (fa : Sk → R (List OV)) : Sk → O := fun S => (fa S).toO fun os S1 => match valsOf os with
  | some [x, y] => if unpinned S1 i = true ∧ unpinned S1 j = true then .nx ((S1.set i (.val x)).set j (.val y)) else .stuck
  | _ => .stuck
theorem vs_par {i j : Nat} {tg e : Expr} {fa : Sk → R (List OV)} (h : PS X (.Assign [tg] e pos) (tPar i j (LiftA X.K X.mg W fa))) : VS X W (.Assign [tg] e pos) (parF i j fa) := by
  refine ⟨PS.imp h fun D σ H ⟨S, R0, q⟩ => ⟨S, R0, ?_⟩⟩
  unfold parF at q
  cases hf : fa S with
  | stuck => rw [hf] at q; exact q
  | exc y S1 => rw [hf] at q; exact fun c d H1 er R1 F1 => q c d σ H1 er R1 F1
  | ok os S1 =>
    rw [hf, R.toO_ok] at q
    intro vs H1 ov R1 F1
    split at q
    · rename_i x y hv
      have r := valsOf_rep ov hv
      cases r with
      | cons a r =>
        cases r with
        | cons b r =>
          cases r
          split at q
          · exact ⟨_, _, rfl, q _ H1 ((R1.setVal a).setVal b) ((F1.trans .setVal).trans .setVal)⟩
          · exact (show False from q).elim
    · exact (show False from q).elim
/-- x op= e -/
def augF (i : Nat) (sem : PV → PV → Option PV) (f : Sk → R PV) : Sk → O := fun S => match S[i]? with
  | some (.val x) => (f S).toO fun y S1 => (match sem x y with
    | some z => if unpinned S1 i = true then .nx (S1.set i (.val z)) else .stuck
    | none => .stuck)
  | _ => .stuck
theorem vs_aug {i : Nat} {op : Operator} {ti : TIp} {sem : PV → PV → Option PV} {target : Expr} (h : PS X (.AugAssign target op e pos) (tAug i (LiftE X.K X.mg W f) ti))
    (hs : ∀ (H : Hp) (x y : V) (p q z : PV) (Q : VK), Rep X.K H x p → Rep X.K H y q → sem p q = some z → (∀ v, Rep X.K H v z → Q v H) → ti x y H Q) : VS X W (.AugAssign target op e pos) (augF i sem f) := by
  refine ⟨PS.imp h fun D σ H ⟨S, R0, q⟩ => ?_⟩
  unfold augF at q
  split at q
  · rename_i x hx
    obtain ⟨v, e1, rv⟩ := R0.atVal hx
    refine ⟨v, e1, S, R0, ?_⟩
    cases hf : f S with
    | stuck => rw [hf] at q; exact q
    | exc y S1 => rw [hf] at q; exact fun c d H1 er R1 F1 => q c d σ H1 er R1 F1
    | ok y S1 =>
      rw [hf, R.toO_ok] at q
      intro w H1 rw' R1 F1
      split at q
      · rename_i z hz
        split at q
        · exact hs H1 v w x y z _ (rv.ext (R0.ext F1)) rw' hz fun u ru => q _ H1 (R1.setVal ru) (F1.trans .setVal)
        · exact (show False from q).elim
      · exact (show False from q).elim
  · exact (show False from q).elim
theorem aug_add (H : Hp) (x y : V) (p q z : PV) (Q : VK) (hx : Rep X.K H x p) (hy : Rep X.K H y q) (e : sInt yes2 (fun i j => i + j) p q = some z) (o : ∀ v, Rep X.K H v z → Q v H) : ipI (fun i j => i + j) x y H Q := by
  unfold sInt at e
  split at e
  · rename_i i j
    rw [if_pos (show yes2 i j = true from rfl)] at e
    cases e
    cases hx
    cases hy
    exact ⟨i, j, rfl, rfl, o _ (.int _)⟩
  · cases e
theorem aug_sub (H : Hp) (x y : V) (p q z : PV) (Q : VK) (hx : Rep X.K H x p) (hy : Rep X.K H y q) (e : sInt yes2 (fun i j => i - j) p q = some z) (o : ∀ v, Rep X.K H v z → Q v H) : ipI (fun i j => i - j) x y H Q := by
  unfold sInt at e
  split at e
  · rename_i i j
    rw [if_pos (show yes2 i j = true from rfl)] at e
    cases e
    cases hx
    cases hy
    exact ⟨i, j, rfl, rfl, o _ (.int _)⟩
  · cases e

/-! ### an object of ours is moved, shared, changed -/
def moveF (j : Nat) : Sk → R PV := fun S => match S[j]? with
  | some (.own x) => .ok x (S.set j .no)
  | _ => .stuck
theorem RelS.setNo (R : RelS K S σ H) (i : Nat) : RelS K (S.set i .no) σ H := by
  refine ⟨by rw [List.length_set]; exact R.len, fun j s h => ?_, fun j k s t a h1 h2 o1 o2 e1 e2 => ?_⟩
  · rcases get_set h with ⟨rfl, rfl⟩ | ⟨ne, h⟩
    · trivial
    · exact R.sl j s h
  · rcases get_set h1 with ⟨rfl, rfl⟩ | ⟨n1, h1⟩
    · cases o1
    · rcases get_set h2 with ⟨rfl, rfl⟩ | ⟨n2, h2⟩
      · cases o2
      · exact R.dj j k s t a h1 h2 o1 o2 e1 e2
theorem Owns.setNo {i : Nat} {a : Addr} (h : Owns (S.set i .no) σ a) : Owns S σ a := by
  obtain ⟨j, s, h1, h2, h3⟩ := h
  rcases get_set h1 with ⟨rfl, rfl⟩ | ⟨ne, h1⟩
  · cases h2
  · exact ⟨j, s, h1, h2, h3⟩
theorem Frm.setNo {i : Nat} : Frm S σ H (S.set i .no) σ H := by
  refine ⟨fun a o h n => ⟨h, fun w => n w.setNo⟩, fun j s h p => ?_⟩
  rcases get_set h with ⟨rfl, rfl⟩ | ⟨ne, h⟩
  · cases p
  · exact ⟨⟨s, h, p⟩, rfl⟩
theorem el_move {j : Nat} {e : Expr} (h : PE X e (tVar j)) : EL X W e (moveF j) := by
  refine ⟨PE.imp h fun σ H Q ⟨S, R0, q⟩ => ?_⟩
  unfold moveF at q
  split at q
  · rename_i x hx
    obtain ⟨a, u, h1, h2, h3⟩ := R0.atOwn hx
    refine ⟨_, h1, q a u H h2 h3 (fun w => ?_) (fun o _ => ⟨j, _, hx, rfl, h1⟩) (R0.setNo j) .setNo⟩
    obtain ⟨k, s, k1, k2, k3⟩ := w
    rcases get_set k1 with ⟨rfl, rfl⟩ | ⟨ne, k1⟩
    · cases k2
    · exact ne (R0.dj j k _ s a hx k1 rfl k2 h1 k3)
  · exact (show False from q).elim
def getO (S : Sk) (j : Nat) : Option PV := match S[j]? with
  | some (.own x) => some x
  | some (.io x) => some x
  | _ => none
def putO (S : Sk) (j : Nat) (x : PV) : Sk := match S[j]? with
  | some (.own _) => S.set j (.own x)
  | some (.io _) => S.set j (.io x)
  | _ => S
theorem getO_rel (R : RelS K S σ H) {j : Nat} {x : PV} (h : getO S j = some x) : ∃ a u, σ[j]? = some (some (V.ref a)) ∧ H a = some u ∧ RepOb K H u x ∧ Owns S σ a := by
  unfold getO at h
  split at h
  · rename_i y hy
    cases h
    obtain ⟨a, u, h1, h2, h3⟩ := R.atOwn hy
    exact ⟨a, u, h1, h2, h3, j, _, hy, rfl, h1⟩
  · rename_i y hy
    cases h
    obtain ⟨a, u, h1, h2, h3⟩ := R.atIo hy
    exact ⟨a, u, h1, h2, h3, j, _, hy, rfl, h1⟩
  · cases h
/-- our object is written -/
theorem write_ext {a : Addr} {u u' : HO} {x : PV} (hu : H a = some u) (r : RepOb K H u x) : Ext H (upd H a u') :=
  ⟨fun b xs h => by rw [upd_ne (ne_of h hu (by intro e; exact r.notTup xs e.symm))]; exact h, fun b o w h => by rw [upd_ne (ne_of h hu (by intro e; exact r.notFrz o w e.symm))]; exact h⟩
theorem RelS.write (R : RelS K S σ H) {j : Nat} {x x' : PV} {a : Addr} {u u' : HO} (hg : getO S j = some x) (ha : σ[j]? = some (some (V.ref a))) (hu : H a = some u) (r : RepOb K H u x) (r' : RepOb K (upd H a u') u' x') :
    RelS K (putO S j x') σ (upd H a u') ∧ Frm S σ H (putO S j x') σ (upd H a u') := by
  have ex := write_ext (u' := u') hu r
  have key : ∀ (s s' : Sl), S[j]? = some s → ownd s = true → ownd s' = true → pinned s' = pinned s → SlRel K (upd H a u') s' σ[j]? → RelS K (S.set j s') σ (upd H a u') ∧ Frm S σ H (S.set j s') σ (upd H a u') := by
    intro s s' hs o1 o2 pn sr
    have ow : ∀ b, Owns (S.set j s') σ b → Owns S σ b := by
      rintro b ⟨k, t, k1, k2, k3⟩
      rcases get_set k1 with ⟨rfl, rfl⟩ | ⟨ne, k1⟩
      · exact ⟨j, s, hs, o1, k3⟩
      · exact ⟨k, t, k1, k2, k3⟩
    refine ⟨⟨by rw [List.length_set]; exact R.len, fun k t h => ?_, fun k l t t' b h1 h2 p1 p2 e1 e2 => ?_⟩, fun b o h n => ⟨?_, fun w => n (ow b w)⟩, fun k t h p => ?_⟩
    · rcases get_set h with ⟨rfl, rfl⟩ | ⟨ne, h⟩
      · exact sr
      · have q := R.sl k t h
        have nb : ∀ b, ownd t = true → σ[k]? = some (some (V.ref b)) → b ≠ a := fun b ot e z => ne (R.dj j k s t a hs h o1 ot ha (by rw [← z]; exact e))
        cases t with
        | no => trivial
        | hid => trivial
        | val y =>
          obtain ⟨v, h1, h2⟩ := R.atVal h
          exact ⟨v, h1, h2.ext ex⟩
        | own y =>
          obtain ⟨b, w, h1, h2, h3⟩ := R.atOwn h
          exact ⟨b, w, h1, by rw [upd_ne (nb b rfl h1)]; exact h2, h3.ext ex⟩
        | io y =>
          obtain ⟨b, w, h1, h2, h3⟩ := R.atIo h
          exact ⟨b, w, h1, by rw [upd_ne (nb b rfl h1)]; exact h2, h3.ext ex⟩
    · rcases get_set h1 with ⟨rfl, rfl⟩ | ⟨n1, h1'⟩
      · rcases get_set h2 with ⟨rfl, rfl⟩ | ⟨n2, h2'⟩
        · rfl
        · exact R.dj j l s t' b hs h2' o1 p2 e1 e2
      · rcases get_set h2 with ⟨rfl, rfl⟩ | ⟨n2, h2'⟩
        · exact R.dj k j t s b h1' hs p1 o1 e1 e2
        · exact R.dj k l t t' b h1' h2' p1 p2 e1 e2
    · rw [upd_ne (fun z => n (by rw [z]; exact ⟨j, s, hs, o1, ha⟩))]
      exact h
    · rcases get_set h with ⟨rfl, rfl⟩ | ⟨ne, h⟩
      · exact ⟨⟨s, hs, by rw [← pn]; exact p⟩, rfl⟩
      · exact ⟨⟨t, h, p⟩, rfl⟩
  unfold getO at hg
  unfold putO
  split at hg
  · rename_i y hy
    exact key _ _ hy rfl rfl rfl ⟨a, u', ha, upd_same, r'⟩
  · rename_i y hy
    exact key _ _ hy rfl rfl rfl ⟨a, u', ha, upd_same, r'⟩
  · cases hg
/-- a method that changes its list: its value, the new content; rs: how the arguments lie, ag: how they are taken -/
def mutF (j : Nat) (ag : Sk → List OV → Option (List PV)) (sem : PV → List PV → Option (PV × PV)) (fa : Sk → R (List OV)) : Sk → R PV := fun S => match getO S j with
  | some (.lst _) => (fa S).bind fun os S1 => (match getO S1 j, ag S1 os with
    | some c, some ps => (match sem c ps with
      | some (z, c') => .ok z (putO S1 j c')
      | none => .stuck)
    | _, _ => .stuck)
  | _ => .stuck
/-- the arguments as values; as they stand -/
def agV : Sk → List OV → Option (List PV) := fun _ => valsOf
def Ag (rs : PySem.W.Frag → Hp → List V → List PV → Prop) (ag : Sk → List OV → Option (List PV)) : Prop := ∀ (K : PySem.W.Frag) (S : Sk) (σ : St) (H : Hp) (os : List OV) (vs : List V) (xs : List PV), RelS K S σ H → OVs K σ H os vs → ag S os = some xs → rs K H vs xs
theorem agV_ok : Ag RepA agV := fun _ _ _ _ _ _ _ _ h e => valsOf_rep h e
theorem lookAll_ok : Ag RTs lookAll := fun _ _ _ _ _ _ _ R h e => lookAll_rt R h e
def MutR (X : Cx) (rs : PySem.W.Frag → Hp → List V → List PV → Prop) (r : V → List V → Hp → VK → Prop) (sem : PV → List PV → Option (PV × PV)) : Prop := ∀ (H : Hp) (a : Addr) (u : HO) (c : PV) (vs : List V) (ps : List PV) (z c' : PV) (Q : VK), H a = some u → RepOb X.K H u c → rs X.K H vs ps → sem c ps = some (z, c') →
  (∀ v u', (∀ H', Ext H H' → Rep X.K H' v z) → (∀ H', Ext H H' → RepOb X.K H' u' c') → Q v (upd H a u')) → r (.ref a) vs H Q
theorem ob_ty {a : Addr} {u : HO} {xs : List PV} (hu : H a = some u) (r : RepOb K H u (.lst xs)) : tyV K "list" (.ref a) H := by
  cases u <;> first | exact (show False from r).elim | exact Or.inl ⟨rfl, _, SqL.of hu⟩
theorem mut_lift {rs : PySem.W.Frag → Hp → List V → List PV → Prop} {ag : Sk → List OV → Option (List PV)} (hag : Ag rs ag) {j : Nat} {sem : PV → List PV → Option (PV × PV)} {fa : Sk → R (List OV)} {r : V → List V → Hp → VK → Prop} (hr : MutR X rs r sem) {σ : St} {H : Hp} {Q : VK}
    (h : LiftE X.K X.mg W (mutF j ag sem fa) σ H Q) : tVar j σ H fun x H1 => tyV X.K "list" x H1 ∧ LiftA X.K X.mg W fa σ H1 fun xs H2 => r x xs H2 Q := by
  obtain ⟨S, R0, q⟩ := h
  unfold mutF at q
  split at q
  · rename_i xs hc0
    obtain ⟨a, u, h1, h2, h3, h4⟩ := getO_rel R0 hc0
    refine ⟨_, h1, ob_ty h2 h3, S, R0, ?_⟩
    cases hf : fa S with
    | stuck => rw [hf] at q; exact q
    | exc y S1 => rw [hf] at q; exact q
    | ok os S1 =>
      rw [hf, R.bind_ok] at q
      intro vs H1 ov R1 F1
      split at q
      · rename_i c ps hc hp
        split at q
        · rename_i z c' hz
          obtain ⟨b, w, k1, k2, k3, k4⟩ := getO_rel R1 hc
          rw [h1] at k1
          cases k1
          refine hr H1 a w c vs ps z c' Q k2 k3 (hag _ _ _ _ _ _ _ R1 ov hp) hz fun v u' rv ro => ?_
          have ex := write_ext (u' := u') k2 k3
          obtain ⟨R2, F2⟩ := R1.write hc h1 k2 k3 (ro _ ex)
          exact q v _ (rv _ ex) R2 (F1.trans F2)
        · exact (show False from q).elim
      · exact (show False from q).elim
  · exact (show False from q).elim
/-- x.m(..) of a list of ours -/
theorem ev_mut {rs : PySem.W.Frag → Hp → List V → List PV → Prop} {ag : Sk → List OV → Option (List PV)} (hag : Ag rs ag) {j : Nat} {sem : PV → List PV → Option (PV × PV)} {fa : Sk → R (List OV)} {r : V → List V → Hp → VK → Prop} {e : Expr} (h : PE X e (tBM X.K "list" r (tVar j) (LiftA X.K X.mg W fa))) (hr : MutR X rs r sem) : EV X W e (mutF j ag sem fa) :=
  ⟨PE.imp h fun σ H Q h => mut_lift hag hr h⟩
theorem ev_mut0 {j : Nat} {sem : PV → List PV → Option (PV × PV)} {r : V → List V → Hp → VK → Prop} {e : Expr} (h : PE X e (tBM0 X.K "list" r (tVar j))) (hr : MutR X RepA r sem) : EV X W e (mutF j agV sem aNil) := by
  refine ⟨PE.imp h fun σ H Q h => ?_⟩
  obtain ⟨x, h1, h2, S, R0, q⟩ := mut_lift agV_ok hr h
  exact ⟨x, h1, h2, q [] H trivial R0 .refl⟩

/-! ### append, pop, extend, a store -/
theorem ob_lst {u : HO} {xs : List PV} (r : RepOb K H u (.lst xs)) : ∃ vs, u = .lst vs ∧ RepA K H vs xs := by
  cases u <;> first | exact (show False from r).elim | exact ⟨_, rfl, r⟩
theorem repA1 {vs : List V} {x : PV} (r : RepA K H vs [x]) : ∃ v, vs = [v] ∧ Rep K H v x := by
  cases r with
  | cons a b => cases b; exact ⟨_, rfl, a⟩
def sAppend : PV → List PV → Option (PV × PV)
  | .lst xs, [x] => if xs.length < 16777216 then some (.non, .lst (xs ++ [x])) else none
  | _, _ => none
theorem m_append : MutR X RepA rAppend sAppend := by
  intro H a u c vs ps z c' Q hu hc hr e o
  unfold sAppend at e
  split at e
  · split at e
    · rename_i xs x h
      cases e
      obtain ⟨ws, rfl, r⟩ := ob_lst hc
      obtain ⟨v, rfl, r2⟩ := repA1 hr
      exact ⟨a, ws, v, rfl, rfl, hu, by rw [sizeLine_eq, r.length]; exact h, o _ _ (fun _ _ => .non) fun H' ex => (r.append (.cons r2 .nil)).ext ex⟩
    · cases e
  · cases e
def sPop : PV → List PV → Option (PV × PV)
  | .lst xs, [] => match xs[xs.length - 1]? with
    | some x => some (x, .lst xs.dropLast)
    | none => none
  | _, _ => none
theorem m_pop : MutR X RepA rPop sPop := by
  intro H a u c vs ps z c' Q hu hc hr e o
  unfold sPop at e
  split at e
  · split at e
    · rename_i xs x h
      cases e
      obtain ⟨ws, rfl, r⟩ := ob_lst hc
      cases hr
      obtain ⟨v, hv, rv⟩ := r.get' h
      exact ⟨a, ws, v, rfl, rfl, hu, by rw [r.length]; exact hv, o _ _ (fun H' ex => rv.ext ex) fun H' ex => r.dropLast.ext ex⟩
    · cases e
  · cases e
def sPopAt : PV → List PV → Option (PV × PV)
  | .lst xs, [.int i] => if -(2 ^ 63) ≤ i ∧ i < 2 ^ 63 then (match seqIndex? i xs.length with
    | some k => (match xs[k]? with
      | some x => some (x, .lst (xs.eraseIdx k))
      | none => none)
    | none => none) else none
  | _, _ => none
theorem m_popAt : MutR X RepA rPopAt sPopAt := by
  intro H a u c vs ps z c' Q hu hc hr e o
  unfold sPopAt at e
  split at e
  · split at e
    · rename_i xs i h
      split at e
      · rename_i k hk
        split at e
        · rename_i x hx
          cases e
          obtain ⟨ws, rfl, r⟩ := ob_lst hc
          obtain ⟨v, rfl, r2⟩ := repA1 hr
          cases r2
          obtain ⟨v, hv, rv⟩ := r.get' hx
          exact ⟨a, ws, i, k, v, rfl, rfl, hu, h.1, h.2, by rw [r.length]; exact hk, hv, o _ _ (fun H' ex => rv.ext ex) fun H' ex => (r.eraseIdx k).ext ex⟩
        · cases e
      · cases e
    · cases e
  · cases e
def rExtendA : V → List V → Hp → VK → Prop := fun x vs H Q => ∃ l b xs zs, x = .ref l ∧ vs = [.ref b] ∧ H l = some (.lst xs) ∧ Rd H b (.lst zs) ∧ xs.length + zs.length ≤ sizeLine ∧ Q .non (upd H l (.lst (xs ++ zs)))
theorem mt_extendA : MtM X "list.extend" rExtendA := by
  intro pins s σ H x vs v us Q I rx rv h
  obtain ⟨l, b, xs, zs, rfl, rfl, hH, hB, hz, q⟩ := h
  cases rx
  obtain ⟨u, rfl, ru⟩ := rv.one
  cases ru
  obtain ⟨z, its, n, r, hl, e⟩ := I.lstM hH
  obtain ⟨z2, its2, n2, r2, e2⟩ := hB.ok I.hok
  have hl2 := r2.length
  have hsz : its.toArray.size + its2.toArray.size ≤ sizeLine := by rw [List.size_toArray, List.size_toArray]; omega
  have hlong : ¬ (!its.toArray.isEmpty && Builtin.List.listTooLong (its.toArray.size + its2.toArray.size)) = true := by
    rw [notLongL hsz, Bool.and_false]
    exact Bool.false_ne_true
  refine call_meets F.slot_list_extend ⟨_, e, rfl⟩ F.entry_list_extend (F.args_list_extend_2 _ _)
    (AutoSeq1.list_extend_list_list_0 l its.toArray n b its2.toArray n2 hlong (by rw [List.size_toArray]; omega) (by omega)) ⟨e, e2, ?_⟩
  refine ⟨.non, _, I.lset (its' := its ++ its2) hH e (by simp) (r.append r2) ?_, rfl, q⟩
  rw [List.length_append]
  omega
def sExtend : PV → List PV → Option (PV × PV)
  | .lst xs, [.lst ys] => if xs.length + ys.length ≤ 16777216 then some (.non, .lst (xs ++ ys)) else none
  | _, _ => none
theorem m_extend : MutR X RTs rExtendA sExtend := by
  intro H a u c vs ps z c' Q hu hc hr e o
  unfold sExtend at e
  split at e
  · split at e
    · rename_i xs ys h
      cases e
      obtain ⟨ws, rfl, r⟩ := ob_lst hc
      obtain ⟨v, rfl, h1⟩ := rts1 hr
      obtain ⟨b, zs, rfl, h2, r2⟩ := h1.lstR
      exact ⟨a, b, ws, zs, rfl, rfl, hu, h2, by rw [sizeLine_eq, r.length, r2.length]; exact h, o _ _ (fun _ _ => .non) fun H' ex => (r.append r2).ext ex⟩
    · cases e
  · cases e
/-- x[i] = v of a list of ours: the value, then the place -/
def stF (j : Nat) (f fi : Sk → R PV) : Sk → O := fun S => match getO S j with
  | some _ => (f S).toO fun x S1 => (fi S1).toO fun i S2 => (match getO S2 j, i with
    | some (.lst xs), .int k => (match ixN xs.length k with
      | some m => .nx (putO S2 j (.lst (xs.set m x)))
      | none => .stuck)
    | _, _ => .stuck)
  | none => .stuck
theorem vs_st {j : Nat} {f fi : Sk → R PV} {tg e : Expr} (h : PS X (.Assign [tg] e pos) (tAsg (LiftE X.K X.mg W f) (gSub (tVar j) (LiftE X.K X.mg W fi) rSetL))) :
    VS X W (.Assign [tg] e pos) (stF j f fi) := by
  refine ⟨PS.imp h fun D σ H ⟨S, R0, q⟩ => ⟨S, R0, ?_⟩⟩
  unfold stF at q
  cases hj : getO S j with
  | none => rw [hj] at q; exact (show False from q).elim
  | some c0 =>
    rw [hj] at q
    obtain ⟨a0, u0, g1, g2, g3, g4⟩ := getO_rel R0 hj
    dsimp only at q
    cases hf : f S with
    | stuck => rw [hf] at q; exact q
    | exc y S1 => rw [hf] at q; exact fun c d H1 er R1 F1 => q c d σ H1 er R1 F1
    | ok x S1 =>
      rw [hf, R.toO_ok] at q
      intro v H1 rv R1 F1
      refine ⟨_, g1, S1, R1, ?_⟩
      cases hi : fi S1 with
      | stuck => rw [hi] at q; exact q
      | exc y S2 => rw [hi] at q; exact fun c d H2 er R2 F2 => q c d σ H2 er R2 (F1.trans F2)
      | ok i S2 =>
        rw [hi, R.toO_ok] at q
        intro iv H2 ri R2 F2
        split at q
        · rename_i xs k hc
          split at q
          · rename_i m hm
            obtain ⟨a, u, k1, k2, k3, k4⟩ := getO_rel R2 hc
            rw [g1] at k1
            cases k1
            obtain ⟨ws, rfl, r⟩ := ob_lst k3
            cases ri
            refine ⟨a0, ws, k, m, rfl, rfl, k2, by rw [r.length]; exact hm, ?_⟩
            have ex := write_ext (u' := .lst (ws.set m v)) k2 k3
            obtain ⟨R3, F3⟩ := R2.write (u' := .lst (ws.set m v)) (x' := .lst (xs.set m x)) hc g1 k2 k3 ((RepA.set (rv.ext (R1.ext F2)) m r).ext ex)
            exact q σ _ R3 ((F1.trans F2).trans F3)
          · exact (show False from q).elim
        · exact (show False from q).elim
end
end VL

set_option Elab.async false
set_option linter.all false
set_option autoImplicit false
set_option maxRecDepth 100000
set_option maxHeartbeats 4000000
/-! VL5: what is walked, loops, comprehensions. -/
namespace VL
open PySem L2

section
variable {X : Cx} {W : WX} {K : PySem.W.Frag} {mg : Str → Option Value} {S S1 S' : Sk} {σ σ1 σ' : St} {H H0 H1 H' : Hp}
/-- an object stands as it was -/
def Pn (pl : Option (Addr × HO)) (H : Hp) : Prop := match pl with
  | none => True
  | some p => H p.1 = some p.2
/-- the items that an iterator gives, one a turn -/
structure WP (K : PySem.W.Frag) (J : It) (xs : List PV) (H0 : Hp) (pl : Option (Addr × HO)) : Prop where
  goes : ∀ i H, i < xs.length → Ext H0 H → Pn pl H → J.go i H
  stops : ∀ H, Ext H0 H → Pn pl H → J.stop xs.length H
  yields : ∀ i H v H', i < xs.length → Ext H0 H → Pn pl H → J.yld i H v H' → Same H H' ∧ ∃ x, xs[i]? = some x ∧ Rep K H' v x
theorem WP.of {J : It} {n : Nat} {G : Hp → Prop} {Y : Nat → Hp → V → Hp → Prop} {xs : List PV} {pl : Option (Addr × HO)} (w : Walk J n G Y) (hn : n = xs.length) (hG : ∀ H, Ext H0 H → Pn pl H → G H)
    (hY : ∀ i H v H', i < n → Ext H0 H → Pn pl H → Y i H v H' → Same H H' ∧ ∃ x, xs[i]? = some x ∧ Rep K H' v x) : WP K J xs H0 pl := by
  subst hn
  exact ⟨fun i H hi e p => w.goes i H hi (hG H e p), fun H e p => w.stops H (hG H e p), fun i H v H' hi e p y => hY i H v H' hi e p (w.yields i H v H' hi (hG H e p) y)⟩
/-- a slot of ours that is walked over -/
def Lent (S : Sk) (σ : St) (H : Hp) (ld : Option Nat) (pl : Option (Addr × HO)) : Prop := match ld, pl with
  | none, none => True
  | some j, some p => σ[j]? = some (some (V.ref p.1)) ∧ H p.1 = some p.2 ∧ ∃ x, getO S j = some x
  | _, _ => False
def LiftI (K : PySem.W.Frag) (mg : Str → Option Value) (W : WX) (f : Sk → R (List PV × Option Nat)) : TI := fun σ H R => ∃ S, RelS K S σ H ∧ match f S with
  | .stuck => False
  | .ok r S' => ∀ J H' pl, WP K J r.1 H' pl → Lent S' σ H' r.2 pl → RelS K S' σ H' → Frm S σ H S' σ H' → R J H'
  | .exc e S' => ∀ cls d H', ExnRep K mg H' cls d e → RelS K S' σ H' → Frm S σ H S' σ H' → W cls d σ H'
structure EI (X : Cx) (W : WX) (tg iter : Expr) (f : Sk → R (List PV × Option Nat)) : Prop where
  pi : PI X tg iter (LiftI X.K X.mg W f)
theorem PI.imp {tg iter : Expr} {t t' : TI} (h : PI X tg iter t) (i : ∀ σ H Q, t' σ H Q → t σ H Q) : PI X tg iter t' := ⟨fun pins s σ H Q I q => h.run pins s σ H Q I (i σ H Q q)⟩
theorem PI.or {tg iter : Expr} {t t' : TI} (h : PI X tg iter t) (h' : PI X tg iter t') : PI X tg iter (fun σ H Q => t σ H Q ∨ t' σ H Q) := ⟨fun pins s σ H Q I q => q.elim (fun z => h.run pins s σ H Q I z) fun z => h'.run pins s σ H Q I z⟩

/-! ### sources -/
theorem wp_list {a : Addr} {vs : List V} {xs : List PV} {pl : Option (Addr × HO)} (hq : ∀ H, Ext H0 H → Pn pl H → SqL K H a vs) (r : ∀ H, Ext H0 H → RepA K H vs xs) : WP K (Itl K a) xs H0 pl := by
  refine WP.of walk_list (r H0 (Ext.refl H0)).length hq fun i H v H' hi e p y => ?_
  obtain ⟨rfl, hv⟩ := y
  obtain ⟨x, hx, rx⟩ := (r H' e).get hv
  exact ⟨Same.refl _, x, hx, rx⟩
theorem wp_tup {a : Addr} {vs : List V} {xs : List PV} (h : H0 a = some (.tup vs)) (r : RepA K H0 vs xs) : WP K (Itt K a) xs H0 none := by
  refine WP.of walk_tup r.length (fun H e _ => SqT.of (e.tup _ _ h)) fun i H v H' hi e p y => ?_
  obtain ⟨rfl, hv⟩ := y
  obtain ⟨x, hx, rx⟩ := (RepA.ext e r).get hv
  exact ⟨Same.refl _, x, hx, rx⟩
def chrP (z : Str) : List PV := z.cps.toList.map fun c => .str ⟨#[c]⟩
theorem wp_str {z : Str} : WP K (Its z) (chrP z) H0 none := by
  refine WP.of walk_str (by simp [chrP]) (fun _ _ _ => trivial) fun i H v H' hi e p y => ?_
  obtain ⟨rfl, c, hc, rfl⟩ := y
  refine ⟨Same.refl _, .str ⟨#[c]⟩, ?_, .str _⟩
  unfold chrP
  rw [List.getElem?_map, Array.getElem?_toList, hc]
  rfl
def rngP (lo : Int) (n : Nat) : List PV := (List.range n).map fun (i : Nat) => .int (lo + (i : Int))
def rngCP (lo c : Int) (n : Nat) : List PV := (List.range n).map fun (i : Nat) => .int (lo + (i : Int) * c)
theorem wp_range {lo : Int} {n : Nat} : WP K (Itr lo n) (rngP lo n) H0 none := by
  refine WP.of walk_range (by simp [rngP]) (fun _ _ _ => trivial) fun i H v H' hi e p y => ?_
  obtain ⟨rfl, rfl⟩ := y
  refine ⟨Same.refl _, .int (lo + i), ?_, .int _⟩
  unfold rngP
  rw [List.getElem?_map, List.getElem?_range hi]
  rfl
theorem wp_rangeC {lo c : Int} {n : Nat} : WP K (Itc lo c n) (rngCP lo c n) H0 none := by
  refine WP.of walk_rangeC (by simp [rngCP]) (fun _ _ _ => trivial) fun i H v H' hi e p y => ?_
  obtain ⟨rfl, rfl⟩ := y
  refine ⟨Same.refl _, .int (lo + (i : Nat) * c), ?_, .int _⟩
  unfold rngCP
  rw [List.getElem?_map, List.getElem?_range hi]
  rfl
/-- new pairs -/
theorem pair_rep {i : Nat} {v : V} {f g : Nat → Option V} {h k : Nat → Option PV} (y : YPair f g i H v H') (rf : ∀ w, f i = some w → ∃ x, h i = some x ∧ Rep K H w x) (rg : ∀ w, g i = some w → ∃ x, k i = some x ∧ Rep K H w x) : Same H H' ∧ ∃ x y, h i = some x ∧ k i = some y ∧ Rep K H' v (.tup [x, y]) := by
  obtain ⟨T, x, y, rfl, hT, rfl, h1, h2⟩ := y
  have sm := same_upd (u := .tup [x, y]) hT
  obtain ⟨p, hp, rp⟩ := rf x h1
  obtain ⟨q, hq, rq⟩ := rg y h2
  exact ⟨sm, p, q, hp, hq, .tup upd_same (.cons (rp.ext (Ext.of_same sm)) (.cons (rq.ext (Ext.of_same sm)) .nil))⟩
def enumP (xs : List PV) : List PV := xs.zipIdx.map fun p => .tup [.int (p.2 : Nat), p.1]
theorem enumP_length (xs : List PV) : (enumP xs).length = xs.length := by simp [enumP]
theorem enumP_get {xs : List PV} {i : Nat} {x : PV} (h : xs[i]? = some x) : (enumP xs)[i]? = some (.tup [.int (i : Nat), x]) := by
  unfold enumP
  rw [List.getElem?_map, List.getElem?_zipIdx, h]
  simp
theorem wp_enum {a : Addr} {vs : List V} {xs : List PV} {pl : Option (Addr × HO)} (hq : ∀ H, Ext H0 H → Pn pl H → SqL K H a vs) (r : ∀ H, Ext H0 H → RepA K H vs xs) : WP K (Ite K a) (enumP xs) H0 pl := by
  refine WP.of walk_enum ((r H0 (Ext.refl H0)).length.trans (enumP_length xs).symm) hq fun i H v H' hi e p y => ?_
  obtain ⟨sm, x, z, h1, h2, h3⟩ := pair_rep (K := K) (h := fun i => some (.int (i : Nat))) (k := fun i => xs[i]?) y (fun w hw => by cases hw; exact ⟨_, rfl, .int _⟩) fun w hw => (r H e).get hw
  cases h1
  exact ⟨sm, _, enumP_get h2, h3⟩
def zipP (xs ys : List PV) : List PV := (xs.zip ys).map fun p => .tup [p.1, p.2]
theorem zipP_length (xs ys : List PV) : (zipP xs ys).length = min xs.length ys.length := by simp [zipP]
theorem zipP_get {xs ys : List PV} {i : Nat} {x y : PV} (h : xs[i]? = some x) (k : ys[i]? = some y) : (zipP xs ys)[i]? = some (.tup [x, y]) := by
  unfold zipP
  rw [List.getElem?_map, (List.getElem?_zip_eq_some (z := (x, y))).mpr ⟨h, k⟩]
  rfl
theorem wp_zip {a b : Addr} {vs ws : List V} {xs ys : List PV} {pl : Option (Addr × HO)} (hq : ∀ H, Ext H0 H → Pn pl H → SqL K H a vs) (r : ∀ H, Ext H0 H → RepA K H vs xs)
    (hq2 : ∀ H, Ext H0 H → Pn pl H → SqL K H b ws) (r2 : ∀ H, Ext H0 H → RepA K H ws ys) : WP K (Itz K a b) (zipP xs ys) H0 pl := by
  refine WP.of (walk_zip (n := min vs.length ws.length) rfl) (by rw [zipP_length, (r H0 (Ext.refl H0)).length, (r2 H0 (Ext.refl H0)).length]) (fun H e p => ⟨hq H e p, hq2 H e p⟩) fun i H v H' hi e p y => ?_
  obtain ⟨sm, x, z, h1, h2, h3⟩ := pair_rep (K := K) (h := fun i => xs[i]?) (k := fun i => ys[i]?) y (fun w hw => (r H e).get hw) fun w hw => (r2 H e).get hw
  exact ⟨sm, _, zipP_get h1 h2, h3⟩
theorem wp_zipT {a b : Addr} {vs ws : List V} {xs ys : List PV} (h1 : H0 a = some (.tup vs)) (r : RepA K H0 vs xs) (h2 : H0 b = some (.tup ws)) (r2 : RepA K H0 ws ys) : WP K (RZ.ItzT K a b) (zipP xs ys) H0 none := by
  refine ⟨fun i H hi e p => ?_, fun H e p => ?_, fun i H v H' hi e p y => ?_⟩
  · rw [zipP_length, ← r.length, ← r2.length] at hi
    have z1 : i < vs.length := by omega
    have z2 : i < ws.length := by omega
    exact ⟨vs, ws, vs[i], ws[i], SqT.of (e.tup _ _ h1), SqT.of (e.tup _ _ h2), List.getElem?_eq_getElem z1, List.getElem?_eq_getElem z2⟩
  · refine ⟨vs, ws, SqT.of (e.tup _ _ h1), SqT.of (e.tup _ _ h2), ?_⟩
    rw [zipP_length, ← r.length, ← r2.length]
    omega
  · obtain ⟨T, x, z, rfl, hT, rfl, k1, k2⟩ := y
    have sm := same_upd (u := .tup [x, z]) hT
    obtain ⟨p, hp, rp⟩ := (RepA.ext e r).get (k1 _ (SqT.of (e.tup _ _ h1)))
    obtain ⟨q, hq, rq⟩ := (RepA.ext e r2).get (k2 _ (SqT.of (e.tup _ _ h2)))
    exact ⟨sm, _, zipP_get hp hq, .tup upd_same (.cons (rp.ext (Ext.of_same sm)) (.cons (rq.ext (Ext.of_same sm)) .nil))⟩

/-- a list, a tuple, a text by value; a list of ours by its slot -/
def seqI (f : Sk → R OV) : Sk → R (List PV × Option Nat) := fun S => (f S).bind fun o S1 => match o with
  | .v (.lst xs) => .ok (xs, none) S1
  | .v (.tup xs) => .ok (xs, none) S1
  | .v (.scr ns) => .ok (ns.map .int, none) S1
  | .v (.str z) => .ok (chrP z, none) S1
  | .s j => (match getO S1 j with
    | some (.lst xs) => .ok (xs, some j) S1
    | _ => .stuck)
  | _ => .stuck
theorem rep_lstI {v : V} {xs : List PV} (h : Rep K H v (.lst xs)) : ∃ a o vs, v = .ref a ∧ H a = some (.frz o (.lst vs)) ∧ RepA K H vs xs := by
  cases h with
  | lst h r => exact ⟨_, _, _, rfl, h, r⟩
theorem rep_scrI {v : V} {ns : List Int} (h : Rep K H v (.scr ns)) : ∃ a, v = .ref a ∧ FzL K H a (ns.map V.int) := by
  cases h with
  | scr h => exact ⟨_, rfl, h⟩
theorem own_list {j : Nat} {xs : List PV} (R : RelS K S σ H) (h : getO S j = some (.lst xs)) : ∃ a vs, σ[j]? = some (some (V.ref a)) ∧ H a = some (.lst vs) ∧ RepA K H vs xs := by
  obtain ⟨a, u, h1, h2, h3, h4⟩ := getO_rel R h
  obtain ⟨vs, rfl, r⟩ := ob_lst h3
  exact ⟨a, vs, h1, h2, r⟩
theorem sq_pin {a : Addr} {vs : List V} (h : Pn (some (a, HO.lst vs)) H) : SqL K H a vs := SqL.of h
variable {tg e : Expr} {fo : Sk → R OV}
theorem ei_seq (he : EO X W e fo) : EI X W tg e (seqI fo) := by
  refine ⟨PI.imp (PI.or (PI.or (pi_list he.pe) (pi_tup he.pe)) (pi_str he.pe)) fun σ H Q ⟨S, R0, q⟩ => ?_⟩
  have go : ∀ {T : VK}, (match fo S with
      | .stuck => False
      | .ok o S1 => ∀ v H1, OVRel X.K σ H1 o v → RelS X.K S1 σ H1 → Frm S σ H S1 σ H1 → T v H1
      | .exc e S1 => ∀ cls d H1, ExnRep X.K X.mg H1 cls d e → RelS X.K S1 σ H1 → Frm S σ H S1 σ H1 → W cls d σ H1) → LiftO X.K X.mg W fo σ H T := fun {T} z => ⟨S, R0, by
    cases hf : fo S with
    | stuck => rw [hf] at z; exact z
    | exc y S1 => rw [hf] at z; exact z
    | ok o S1 => rw [hf] at z; exact z⟩
  unfold seqI at q
  cases hf : fo S with
  | stuck => rw [hf] at q; exact q.elim
  | exc y S1 =>
    rw [hf] at q
    refine .inl (.inl (go ?_))
    rw [hf]
    exact q
  | ok o S1 =>
    rw [hf] at q go
    dsimp only at go
    rw [R.bind_ok] at q
    cases o with
    | s j =>
      refine .inl (.inl (go fun v H1 ov R1 F1 => ?_))
      dsimp only at q
      cases hg : getO S1 j with
      | none => rw [hg] at q; exact q.elim
      | some c =>
        rw [hg] at q
        cases c <;> first | exact q.elim | skip
        rename_i xs
        obtain ⟨a, vs, h1, h2, r⟩ := own_list R1 hg
        have h' : σ[j]? = some (some v) := ov
        rw [h'] at h1
        cases h1
        exact ⟨a, rfl, ⟨vs, SqL.of h2⟩, q _ H1 (some (a, .lst vs)) (wp_list (fun H e p => sq_pin p) fun H e => RepA.ext e r) ⟨h', h2, _, hg⟩ R1 F1⟩
    | v x =>
      cases x <;> first | exact q.elim | skip
      · refine .inr (go fun v H1 ov R1 F1 => ?_)
        cases (show Rep X.K H1 v (.str _) from ov)
        exact ⟨_, rfl, q _ H1 none wp_str trivial R1 F1⟩
      · refine .inl (.inr (go fun v H1 ov R1 F1 => ?_))
        obtain ⟨a, vs, rfl, h1, r⟩ := RT.tup (.inl (show Rep X.K H1 v (.tup _) from ov))
        exact ⟨a, rfl, ⟨vs, SqT.of h1⟩, q _ H1 none (wp_tup h1 r) trivial R1 F1⟩
      · refine .inl (.inl (go fun v H1 ov R1 F1 => ?_))
        obtain ⟨a, o, vs, rfl, h1, r⟩ := rep_lstI (show Rep X.K H1 v (.lst _) from ov)
        exact ⟨a, rfl, ⟨vs, .inl (.inr ⟨o, h1⟩)⟩, q _ H1 none (wp_list (fun H e p => .inl (.inr ⟨o, e.frz _ _ _ h1⟩)) fun H e => RepA.ext e r) trivial R1 F1⟩
      · refine .inl (.inl (go fun v H1 ov R1 F1 => ?_))
        obtain ⟨a, rfl, h1⟩ := rep_scrI (show Rep X.K H1 v (.scr _) from ov)
        exact ⟨a, rfl, ⟨_, h1.sq⟩, q _ H1 none (wp_list (fun H e p => (e.fzL h1).sq) fun H e => RepA.of_ints _) trivial R1 F1⟩
/-- arguments as values, then what is walked -/
def argI (sem : List PV → Option (List PV)) (f : Sk → R (List OV)) : Sk → R (List PV × Option Nat) := fun S => (f S).bind fun os S1 => match valsOf os with
  | some xs => (match sem xs with
    | some ys => .ok (ys, none) S1
    | none => .stuck)
  | none => .stuck
theorem argI_lift {sem : List PV → Option (List PV)} {fa : Sk → R (List OV)} {r : List V → Hp → (It → Hp → Prop) → Prop} {Q : It → Hp → Prop}
    (hr : ∀ (H : Hp) (vs : List V) (xs ys : List PV), RepA K H vs xs → sem xs = some ys → (∀ J, WP K J ys H none → Q J H) → r vs H Q) (h : LiftI K mg W (argI sem fa) σ H Q) : LiftA K mg W fa σ H fun vs H1 => r vs H1 Q := by
  obtain ⟨S, R0, q⟩ := h
  refine ⟨S, R0, ?_⟩
  unfold argI at q
  cases hf : fa S with
  | stuck => rw [hf] at q; exact q
  | exc y S1 => rw [hf] at q; exact q
  | ok os S1 =>
    rw [hf, R.bind_ok] at q
    intro vs H1 ov R1 F1
    cases hv : valsOf os with
    | none => rw [hv] at q; exact q.elim
    | some xs =>
      rw [hv] at q
      dsimp only at q
      cases hs : sem xs with
      | none => rw [hs] at q; exact q.elim
      | some ys =>
        rw [hs] at q
        exact hr H1 vs xs ys (valsOf_rep ov hv) hs fun J w => q J H1 none w trivial R1 F1
variable {fa : Sk → R (List OV)} {p pos : Pos}
theorem repA2 {vs : List V} {x y : PV} (r : RepA K H vs [x, y]) : ∃ v w, vs = [v, w] ∧ Rep K H v x ∧ Rep K H w y := by
  cases r with
  | cons a b =>
    obtain ⟨w, rfl, c⟩ := repA1 b
    exact ⟨_, w, rfl, a, c⟩
def sRng1 : List PV → Option (List PV)
  | [.int j] => if -(2 ^ 62) ≤ j ∧ j < 2 ^ 62 then some (rngP 0 j.toNat) else none
  | _ => none
def sRng2 : List PV → Option (List PV)
  | [.int i, .int j] => if -(2 ^ 62) ≤ i ∧ i < 2 ^ 62 ∧ -(2 ^ 62) ≤ j ∧ j < 2 ^ 62 then some (rngP i (j - i).toNat) else none
  | _ => none
theorem ei_range1 {a : Expr} (hg : Gl X "range") (hm : X.mg "range" = none) (ha : EA X W [a] fa) (hs : starEach [a] X.env = [(false, eval a X.env)]) : EI X W tg (.Call (.Name "range" p) [a] [] pos) (argI sRng1 fa) := by
  refine ⟨PI.imp (pi_range1 hg hm ha.pa hs) fun σ H Q h => argI_lift (r := fun vs H1 Q => ∃ j : Int, vs = [.int j] ∧ -(2 ^ 62) ≤ j ∧ j < 2 ^ 62 ∧ Q (Itr 0 j.toNat) H1) (fun H vs xs ys r e o => ?_) h⟩
  unfold sRng1 at e
  split at e
  · split at e
    · rename_i j hj
      cases e
      obtain ⟨v, rfl, r1⟩ := repA1 r
      cases r1
      exact ⟨j, rfl, hj.1, hj.2, o _ wp_range⟩
    · cases e
  · cases e
theorem ei_range2 {a b : Expr} (hg : Gl X "range") (hm : X.mg "range" = none) (ha : EA X W [a, b] fa) (hs : starEach [a, b] X.env = [(false, eval a X.env), (false, eval b X.env)]) (hs2 : starEach [b] X.env = [(false, eval b X.env)]) : EI X W tg (.Call (.Name "range" p) [a, b] [] pos) (argI sRng2 fa) := by
  refine ⟨PI.imp (pi_range2 hg hm ha.pa hs hs2) fun σ H Q h => argI_lift (r := fun vs H1 Q => ∃ i j : Int, vs = [.int i, .int j] ∧ (-(2 ^ 62) ≤ i ∧ i < 2 ^ 62 ∧ -(2 ^ 62) ≤ j ∧ j < 2 ^ 62) ∧ Q (Itr i (j - i).toNat) H1) (fun H vs xs ys r e o => ?_) h⟩
  unfold sRng2 at e
  split at e
  · split at e
    · rename_i i j hj
      cases e
      obtain ⟨v, w, rfl, r1, r2⟩ := repA2 r
      cases r1
      cases r2
      exact ⟨i, j, rfl, hj, o _ wp_range⟩
    · cases e
  · cases e
end
end VL

set_option Elab.async false
set_option linter.all false
set_option autoImplicit false
set_option maxRecDepth 100000
set_option maxHeartbeats 4000000
/-! VL6: loops. -/
namespace VL
open PySem L2

section
variable {X : Cx} {W : WX} {K : PySem.W.Frag} {mg : Str → Option Value} {S S1 S' : Sk} {σ σ1 σ' : St} {H H0 H1 H' : Hp}
abbrev Ld := Option (Nat × Sl)
def mkLd (S : Sk) : Option Nat → Ld
  | none => none
  | some j => (S[j]?).map fun s => (j, s)
def hideL : Ld → Sk → Sk
  | none, S => S
  | some p, S => S.set p.1 .hid
def giveL : Ld → Sk → Option Sk
  | none, S => some S
  | some p, S => match S[p.1]? with
    | some .hid => some (S.set p.1 p.2)
    | _ => none
def O.give (ld : Ld) : O → O
  | .stuck => .stuck
  | .nx S => (match giveL ld S with
    | some S' => .nx S'
    | none => .stuck)
  | .rt r S => (match giveL ld S with
    | some S' => .rt r S'
    | none => .stuck)
  | .bk S => (match giveL ld S with
    | some S' => .bk S'
    | none => .stuck)
  | .ct S => (match giveL ld S with
    | some S' => .ct S'
    | none => .stuck)
  | .exc e S => (match giveL ld S with
    | some S' => .exc e S'
    | none => .stuck)
theorem getO_slot {j : Nat} {x : PV} (h : getO S j = some x) : S[j]? = some (.own x) ∨ S[j]? = some (.io x) := by
  unfold getO at h
  split at h
  · rename_i y hy; cases h; exact .inl hy
  · rename_i y hy; cases h; exact .inr hy
  · cases h
/-- a lent slot, hidden: how things stand -/
structure Hid (K : PySem.W.Frag) (S : Sk) (σ : St) (H : Hp) (ld : Ld) (pl : Option (Addr × HO)) : Prop where
  rel : RelS K (hideL ld S) σ H
  off : ∀ p, pl = some p → ¬ Owns (hideL ld S) σ p.1
  frm : Frm S σ H (hideL ld S) σ H ∨ ∃ j s, ld = some (j, s)
  back : ∀ S' σ' H' S'', RelS K S' σ' H' → Frm (hideL ld S) σ H S' σ' H' → giveL ld S' = some S'' → RelS K S'' σ' H' ∧ Frm S σ H S'' σ' H' ∧ ∀ b, Owns S'' σ' b → Owns S' σ' b ∨ ∃ o, H b = some o ∧ ¬ Owns (hideL ld S) σ b
  sub : ∀ b, Owns (hideL ld S) σ b → Owns S σ b
theorem hid_of (R : RelS K S σ H) {ld : Option Nat} {pl : Option (Addr × HO)} (L : Lent S σ H ld pl) : Hid K S σ H (mkLd S ld) pl ∧ Pn pl H := by
  cases ld with
  | none =>
    cases pl with
    | some p => exact (show False from L).elim
    | none => exact ⟨⟨R, (fun p e => by cases e), .inl .refl, fun S' σ' H' S'' R' F' e => by cases e; exact ⟨R', F', fun b h => .inl h⟩, fun b h => h⟩, trivial⟩
  | some j =>
    cases pl with
    | none => exact (show False from L).elim
    | some p =>
      obtain ⟨a, u⟩ := p
      obtain ⟨h1, h2, x, hx⟩ := (show σ[j]? = some (some (V.ref a)) ∧ H a = some u ∧ ∃ x, getO S j = some x from L)
      refine ⟨?_, h2⟩
      obtain ⟨a', u', k1, k2, k3, k4⟩ := getO_rel R hx
      rw [h1] at k1; cases k1
      rw [h2] at k2; cases k2
      have key : ∀ s, S[j]? = some s → ownd s = true → (∀ (σ' : St) (H' : Hp), σ'[j]? = some (some (V.ref a)) → H' a = some u → RepOb K H' u x → SlRel K H' s σ'[j]?) → Hid K S σ H (some (j, s)) (some (a, u)) := by
        intro s hs os sr
        have sub : ∀ b, Owns (S.set j .hid) σ b → Owns S σ b := fun b ⟨k, t, t1, t2, t3⟩ => by
          rcases get_set t1 with ⟨rfl, rfl⟩ | ⟨ne, t1⟩
          · cases t2
          · exact ⟨k, t, t1, t2, t3⟩
        have rel : RelS K (S.set j .hid) σ H := by
          refine ⟨by rw [List.length_set]; exact R.len, fun k t h => ?_, fun k l t t' b e1 e2 o1 o2 g1 g2 => ?_⟩
          · rcases get_set h with ⟨rfl, rfl⟩ | ⟨ne, h⟩
            · trivial
            · exact R.sl k t h
          · rcases get_set e1 with ⟨rfl, rfl⟩ | ⟨n1, e1⟩
            · cases o1
            · rcases get_set e2 with ⟨rfl, rfl⟩ | ⟨n2, e2⟩
              · cases o2
              · exact R.dj k l t t' b e1 e2 o1 o2 g1 g2
        have off : ¬ Owns (S.set j .hid) σ a := fun ⟨k, t, t1, t2, t3⟩ => by
          rcases get_set t1 with ⟨rfl, rfl⟩ | ⟨ne, t1⟩
          · cases t2
          · exact ne (R.dj j k s t a hs t1 os t2 h1 t3)
        refine ⟨rel, fun p e => by cases e; exact off, .inr ⟨j, s, rfl⟩, fun S' σ' H' S'' R' F' e => ?_, sub⟩
        have e' : (match S'[j]? with
          | some .hid => some (S'.set j s)
          | _ => none) = some S'' := e
        split at e'
        · rename_i hj
          cases e'
          obtain ⟨_, e1⟩ := F'.io j .hid hj rfl
          rw [h1] at e1
          obtain ⟨e2, e3⟩ := F'.keep a u h2 off
          refine ⟨⟨by rw [List.length_set]; exact R'.len, fun k t h => ?_, fun k l t t' b g1 g2 o1 o2 w1 w2 => ?_⟩, ⟨fun b o hb nb => ?_, fun k t h pn => ?_⟩, fun b ow => ?_⟩
          · rcases get_set h with ⟨rfl, rfl⟩ | ⟨ne, h⟩
            · exact sr σ' H' e1 e2 (k3.ext (rel.ext F'))
            · exact R'.sl k t h
          · rcases get_set g1 with ⟨rfl, rfl⟩ | ⟨n1, q1⟩
            · rcases get_set g2 with ⟨rfl, rfl⟩ | ⟨n2, q2⟩
              · rfl
              · rw [e1] at w1; cases w1
                exact absurd ⟨l, t', q2, o2, w2⟩ e3
            · rcases get_set g2 with ⟨rfl, rfl⟩ | ⟨n2, q2⟩
              · rw [e1] at w2; cases w2
                exact absurd ⟨k, t, q1, o1, w1⟩ e3
              · exact R'.dj k l t t' b q1 q2 o1 o2 w1 w2
          · obtain ⟨q1, q2⟩ := F'.keep b o hb fun w => nb (sub b w)
            refine ⟨q1, fun ⟨k, t, t1, t2, t3⟩ => ?_⟩
            rcases get_set t1 with ⟨rfl, rfl⟩ | ⟨ne, t1⟩
            · rw [e1] at t3; cases t3
              exact nb k4
            · exact q2 ⟨k, t, t1, t2, t3⟩
          · rcases get_set h with ⟨rfl, rfl⟩ | ⟨ne, h⟩
            · exact ⟨⟨_, hs, pn⟩, e1.trans h1.symm⟩
            · obtain ⟨⟨y, y1, y2⟩, y3⟩ := F'.io k t h pn
              rcases get_set y1 with ⟨rfl, rfl⟩ | ⟨ne', y1⟩
              · exact absurd rfl ne
              · exact ⟨⟨y, y1, y2⟩, y3⟩
          · obtain ⟨k, t, t1, t2, t3⟩ := ow
            rcases get_set t1 with ⟨rfl, rfl⟩ | ⟨ne, t1⟩
            · rw [e1] at t3; cases t3
              exact .inr ⟨u, h2, off⟩
            · exact .inl ⟨k, t, t1, t2, t3⟩
        · cases e'
      have hm : ∀ s, S[j]? = some s → mkLd S (some j) = some (j, s) := fun s hs => by simp only [mkLd, hs, Option.map_some]
      rcases getO_slot hx with hs | hs
      · rw [hm _ hs]
        exact key _ hs rfl fun σ' H' z1 z2 z3 => ⟨a, u, z1, z2, z3⟩
      · rw [hm _ hs]
        exact key _ hs rfl fun σ' H' z1 z2 z3 => ⟨a, u, z1, z2, z3⟩
theorem give_post {ld : Ld} {pl : Option (Addr × HO)} {r : O} {D : Ends} (h : Hid K S σ H ld pl) (q : PostS K mg W S σ H (r.give ld) D) : PostS K mg W (hideL ld S) σ H r D := by
  cases r with
  | stuck => exact q
  | nx S' =>
    dsimp only [O.give] at q
    intro σ' H' R' F'
    cases hg : giveL ld S' with
    | none => rw [hg] at q; exact (show False from q).elim
    | some S'' =>
      rw [hg] at q
      obtain ⟨a, b, c⟩ := h.back S' σ' H' S'' R' F' hg
      exact q σ' H' a b
  | bk S' =>
    dsimp only [O.give] at q
    intro σ' H' R' F'
    cases hg : giveL ld S' with
    | none => rw [hg] at q; exact (show False from q).elim
    | some S'' =>
      rw [hg] at q
      obtain ⟨a, b, c⟩ := h.back S' σ' H' S'' R' F' hg
      exact q σ' H' a b
  | ct S' =>
    dsimp only [O.give] at q
    intro σ' H' R' F'
    cases hg : giveL ld S' with
    | none => rw [hg] at q; exact (show False from q).elim
    | some S'' =>
      rw [hg] at q
      obtain ⟨a, b, c⟩ := h.back S' σ' H' S'' R' F' hg
      exact q σ' H' a b
  | exc e S' =>
    dsimp only [O.give] at q
    intro cls d σ' H' er R' F'
    cases hg : giveL ld S' with
    | none => rw [hg] at q; exact (show False from q).elim
    | some S'' =>
      rw [hg] at q
      obtain ⟨a, b, c⟩ := h.back S' σ' H' S'' R' F' hg
      exact q cls d σ' H' er a b
  | rt r S' =>
    dsimp only [O.give] at q
    cases r with
    | v x =>
      intro v σ' H' rv R' F'
      cases hg : giveL ld S' with
      | none => rw [hg] at q; exact (show False from q).elim
      | some S'' =>
        rw [hg] at q
        obtain ⟨a, b, c⟩ := h.back S' σ' H' S'' R' F' hg
        exact q v σ' H' rv a b
    | l x =>
      intro p u σ' H' h1 h2 h3 h4 R' F'
      cases hg : giveL ld S' with
      | none => rw [hg] at q; exact (show False from q).elim
      | some S'' =>
        rw [hg] at q
        obtain ⟨a, b, c⟩ := h.back S' σ' H' S'' R' F' hg
        refine q p u σ' H' h1 h2 (fun w => ?_) (fun o ho => h.sub p (h4 o ho)) a b
        rcases c p w with w | ⟨o, ho, no⟩
        · exact h3 w
        · exact no (h4 o ho)

/-! ### for -/
def loopF (g : PV → Sk → Option Sk) (F : Sk → O) : List PV → Sk → O
  | [], S => .nx S
  | x :: xs, S => match g x S with
    | none => .stuck
    | some S1 => match F S1 with
      | .nx S2 => loopF g F xs S2
      | .ct S2 => loopF g F xs S2
      | .bk S2 => .nx S2
      | .rt r S2 => .rt r S2
      | .exc e S2 => .exc e S2
      | .stuck => .stuck
def forF (f : Sk → R (List PV × Option Nat)) (g : PV → Sk → Option Sk) (F : Sk → O) : Sk → O := fun S => (f S).toO fun r S1 => (loopF g F r.1 (hideL (mkLd S1 r.2) S1)).give (mkLd S1 r.2)
variable {tg iter : Expr} {ts : List Nat} {f : Sk → R (List PV × Option Nat)} {g : PV → Sk → Option Sk} {F : Sk → O} {body : List Stmt} {pos : Pos}
theorem loop_ok {J : It} {xs : List PV} {pl : Option (Addr × HO)} (w : WP K J xs H pl) (R0 : RelS K S σ H) (hp : Pn pl H) (off : ∀ p, pl = some p → ¬ Owns S σ p.1) {D : Ends} (q : PostS K mg W S σ H (loopF g F xs S) D) :
    ∃ V : Nat → Nat → St → Hp → Prop, (∃ m, V 0 m σ H) ∧ ∀ i m σ H, V i m σ H →
      (J.stop i H ∧ D.nx σ H) ∨ (J.go i H ∧ ∃ N : St → Hp → Prop, (∀ σ' H', N σ' H' → ∃ m', m' < m ∧ V (i + 1) m' σ' H') ∧ ∀ x H', J.yld i H x H' → LiftG K ts g x σ H' fun σ2 H2 => LiftS K mg W F { D with nx := N, ct := N, bk := D.nx } σ2 H2) := by
  refine ⟨fun i m σc Hc => m = xs.length - i ∧ i ≤ xs.length ∧ ∃ Sc, RelS K Sc σc Hc ∧ Frm S σ H Sc σc Hc ∧ PostS K mg W Sc σc Hc (loopF g F (xs.drop i) Sc) D, ⟨xs.length, by simp, Nat.zero_le _, S, R0, .refl, q⟩, ?_⟩
  rintro i m σc Hc ⟨rfl, hi, Sc, Rc, Fc, qc⟩
  have ex := R0.ext Fc
  have pn : Pn pl Hc := by
    cases pl with
    | none => trivial
    | some p => exact (Fc.keep p.1 p.2 hp (off p rfl)).1
  by_cases hlt : i < xs.length
  · refine .inr ⟨w.goes i Hc hlt ex pn, fun σ' H' => xs.length - (i + 1) = xs.length - (i + 1) ∧ i + 1 ≤ xs.length ∧ ∃ Sc, RelS K Sc σ' H' ∧ Frm S σ H Sc σ' H' ∧ PostS K mg W Sc σ' H' (loopF g F (xs.drop (i + 1)) Sc) D, fun σ' H' h => ⟨xs.length - (i + 1), by omega, h⟩, fun v H' y => ?_⟩
    obtain ⟨sm, x, hx, rx⟩ := w.yields i Hc v H' hlt ex pn y
    have hd : xs.drop i = x :: xs.drop (i + 1) := by
      rw [List.drop_eq_getElem_cons hlt]
      congr 1
      rw [List.getElem?_eq_getElem hlt] at hx
      exact Option.some.inj hx
    rw [hd] at qc
    have qc' : PostS K mg W Sc σc Hc (match g x Sc with
      | none => O.stuck
      | some S1 => match F S1 with
        | .nx S2 => loopF g F (xs.drop (i + 1)) S2
        | .ct S2 => loopF g F (xs.drop (i + 1)) S2
        | .bk S2 => .nx S2
        | .rt r S2 => .rt r S2
        | .exc e S2 => .exc e S2
        | .stuck => .stuck) D := qc
    refine ⟨Sc, x, Rc.same sm, rx, ?_⟩
    cases hg : g x Sc with
    | none => rw [hg] at qc'; exact qc'
    | some S2 =>
      rw [hg] at qc'
      dsimp only at qc'
      intro σ2 H2 R2 F2 _
      refine ⟨S2, R2, ?_⟩
      have F12 := (Frm.same (S := Sc) (σ := σc) sm).trans F2
      cases hF : F S2 with
      | stuck => rw [hF] at qc'; exact qc'
      | nx S3 => rw [hF] at qc'; exact fun σ3 H3 R3 F3 => ⟨rfl, hlt, S3, R3, Fc.trans (F12.trans F3), PostS.step qc' (F12.trans F3)⟩
      | ct S3 => rw [hF] at qc'; exact fun σ3 H3 R3 F3 => ⟨rfl, hlt, S3, R3, Fc.trans (F12.trans F3), PostS.step qc' (F12.trans F3)⟩
      | bk S3 => rw [hF] at qc'; exact fun σ3 H3 R3 F3 => qc' σ3 H3 R3 (F12.trans F3)
      | exc e S3 => rw [hF] at qc'; exact PostS.step (r := .exc e S3) qc' F12
      | rt r S3 => rw [hF] at qc'; cases r <;> exact PostS.step (r := .rt _ S3) qc' F12
  · have e : i = xs.length := by omega
    subst e
    rw [List.drop_length] at qc
    exact .inl ⟨w.stops Hc ex pn, qc σc Hc Rc .refl⟩
theorem vs_for (hp : PassesOwn (model X.prog X.w) X.A X.env X.xe) (hc : X.calm = true) (hi : EI X W tg iter f) (hg : EG X tg ts g) (hb : VSs X W body F) (hs : ∀ x, foldedSetIterable iter X.env x = pure x) : VS X W (.For tg iter body [] pos) (forF f g F) := by
  refine ⟨PS.imp (ps_for hp hc hi.pi hg.pg hb.ps hs) fun D σ H ⟨S, R0, q⟩ => ⟨S, R0, ?_⟩⟩
  unfold forF at q
  cases hf : f S with
  | stuck => rw [hf] at q; exact q
  | exc y S1 => rw [hf] at q; exact fun c d H1 er R1 F1 => q c d σ H1 er R1 F1
  | ok r S1 =>
    rw [hf, R.toO_ok] at q
    intro J H1 pl w L R1 F1
    obtain ⟨hd, pn⟩ := hid_of R1 L
    exact loop_ok w hd.rel pn hd.off (give_post hd (PostS.step q F1))

/-! ### while -/
def whileN (c : Sk → R Bool) (F : Sk → O) : Nat → Sk → O
  | 0, _ => .stuck
  | n + 1, S => (c S).toO fun b S1 => if b = true then (match F S1 with
      | .nx S2 => whileN c F n S2
      | .ct S2 => whileN c F n S2
      | .bk S2 => .nx S2
      | .rt r S2 => .rt r S2
      | .exc e S2 => .exc e S2
      | .stuck => .stuck) else .nx S1
theorem whileN_up {c : Sk → R Bool} {F : Sk → O} : ∀ (n : Nat) (S : Sk), whileN c F n S ≠ .stuck → whileN c F (n + 1) S = whileN c F n S := by
  intro n
  induction n with
  | zero => intro S h; exact absurd rfl h
  | succ n ih =>
    intro S h
    unfold whileN at h ⊢
    cases hc : c S with
    | stuck => rfl
    | exc e S1 => rfl
    | ok b S1 =>
      rw [hc] at h
      simp only [R.toO_ok] at h ⊢
      cases b with
      | false => rfl
      | true =>
        simp only [if_true] at h ⊢
        cases hF : F S1 with
        | nx S2 => rw [hF] at h; exact ih S2 h
        | ct S2 => rw [hF] at h; exact ih S2 h
        | bk S2 => rfl
        | rt r S2 => rfl
        | exc e S2 => rfl
        | stuck => rfl
theorem whileN_le {c : Sk → R Bool} {F : Sk → O} {n m : Nat} {S : Sk} (h : whileN c F n S ≠ .stuck) (hm : n ≤ m) : whileN c F m S = whileN c F n S := by
  induction m with
  | zero => rw [Nat.le_zero.mp hm]
  | succ m ih =>
    by_cases e : n = m + 1
    · rw [e]
    · have := ih (by omega)
      rw [whileN_up m S (by rw [this]; exact h), this]
open Classical in
/-- as often as it takes -/
noncomputable def whileF (c : Sk → R Bool) (F : Sk → O) : Sk → O := fun S => if h : ∃ n, whileN c F n S ≠ .stuck then whileN c F (Classical.choose h) S else .stuck
theorem whileF_of {c : Sk → R Bool} {F : Sk → O} {n : Nat} {S : Sk} (h : whileN c F n S ≠ .stuck) : whileF c F S = whileN c F n S := by
  have ex : ∃ n, whileN c F n S ≠ .stuck := ⟨n, h⟩
  unfold whileF
  rw [dif_pos ex]
  have h2 := Classical.choose_spec ex
  rcases Nat.le_total n (Classical.choose ex) with l | l
  · exact whileN_le h l
  · exact (whileN_le h2 l).symm
theorem whileF_eq (c : Sk → R Bool) (F : Sk → O) (S : Sk) : whileF c F S = (c S).toO fun b S1 => if b = true then (match F S1 with
      | .nx S2 => whileF c F S2
      | .ct S2 => whileF c F S2
      | .bk S2 => .nx S2
      | .rt r S2 => .rt r S2
      | .exc e S2 => .exc e S2
      | .stuck => .stuck) else .nx S1 := by
  have one : ∀ (S2 : Sk), (∀ n, whileN c F n S2 = .stuck) → whileF c F S2 = .stuck := fun S2 h => by
    unfold whileF
    rw [dif_neg (fun ⟨n, hn⟩ => hn (h n))]
  by_cases ex : ∃ n, whileN c F n S ≠ .stuck
  · obtain ⟨n, hn⟩ := ex
    rw [whileF_of hn]
    cases n with
    | zero => exact absurd rfl hn
    | succ n =>
      unfold whileN at hn ⊢
      cases hc : c S with
      | stuck => rfl
      | exc e S1 => rfl
      | ok b S1 =>
        rw [hc] at hn
        simp only [R.toO_ok] at hn ⊢
        cases b with
        | false => rfl
        | true =>
          simp only [if_true] at hn ⊢
          cases hF : F S1 with
          | nx S2 => rw [hF] at hn; exact (whileF_of hn).symm
          | ct S2 => rw [hF] at hn; exact (whileF_of hn).symm
          | bk S2 => rfl
          | rt r S2 => rfl
          | exc e S2 => rfl
          | stuck => rfl
  · have all : ∀ n, whileN c F n S = .stuck := fun n => Classical.byContradiction fun h => ex ⟨n, h⟩
    rw [one S all]
    have st : ∀ n, whileN c F (n + 1) S = .stuck := fun n => all (n + 1)
    unfold whileN at st
    cases hc : c S with
    | stuck => rfl
    | exc e S1 => have := st 0; rw [hc] at this; cases this
    | ok b S1 =>
      rw [hc] at st
      simp only [R.toO_ok] at st ⊢
      cases b with
      | false => have := st 0; cases this
      | true =>
        simp only [if_true] at st ⊢
        cases hF : F S1 with
        | nx S2 => rw [hF] at st; exact (one S2 st).symm
        | ct S2 => rw [hF] at st; exact (one S2 st).symm
        | bk S2 => rw [hF] at st; have := st 0; cases this
        | rt r S2 => rw [hF] at st; have := st 0; cases this
        | exc e S2 => rw [hF] at st; have := st 0; cases this
        | stuck => rfl
theorem vs_while {c : Expr} {gc : Sk → R Bool} (hp : PassesOwn (model X.prog X.w) X.A X.env X.xe) (hc : ET X W c gc) (hb : VSs X W body F) : VS X W (.While c body [] pos) (whileF gc F) := by
  refine ⟨PS.imp (ps_while hp hc.pt hb.ps) fun D σ H ⟨S, R0, q⟩ => ?_⟩
  have ne : ∃ n, whileN gc F n S ≠ .stuck := by
    refine Classical.byContradiction fun h => ?_
    unfold whileF at q
    rw [dif_neg h] at q
    exact q
  obtain ⟨n, hn⟩ := ne
  rw [whileF_of hn] at q
  refine ⟨fun m σc Hc => ∃ Sc, RelS X.K Sc σc Hc ∧ PostS X.K X.mg W Sc σc Hc (whileN gc F m Sc) D, ⟨n, S, R0, q⟩, ?_⟩
  rintro m σc Hc ⟨Sc, Rc, qc⟩
  refine ⟨Sc, Rc, ?_⟩
  cases m with
  | zero => exact (show False from qc).elim
  | succ m =>
    unfold whileN at qc
    cases hcc : gc Sc with
    | stuck => rw [hcc] at qc; exact qc
    | exc e S1 => rw [hcc] at qc; exact fun c d H1 er R1 F1 => qc c d σc H1 er R1 F1
    | ok b S1 =>
      rw [hcc, R.toO_ok] at qc
      intro H1 R1 F1
      cases b with
      | false => exact qc σc H1 R1 F1
      | true =>
        rw [if_pos rfl] at qc ⊢
        refine ⟨fun σ' H' => ∃ Sc, RelS X.K Sc σ' H' ∧ PostS X.K X.mg W Sc σ' H' (whileN gc F m Sc) D, fun σ' H' h => ⟨m, Nat.lt_succ_self m, h⟩, S1, R1, ?_⟩
        cases hF : F S1 with
        | stuck => rw [hF] at qc; exact qc
        | nx S2 => rw [hF] at qc; exact fun σ2 H2 R2 F2 => ⟨S2, R2, PostS.step qc (F1.trans F2)⟩
        | ct S2 => rw [hF] at qc; exact fun σ2 H2 R2 F2 => ⟨S2, R2, PostS.step qc (F1.trans F2)⟩
        | bk S2 => rw [hF] at qc; exact fun σ2 H2 R2 F2 => qc σ2 H2 R2 (F1.trans F2)
        | exc e S2 => rw [hF] at qc; exact PostS.step (r := .exc e S2) qc F1
        | rt r S2 => rw [hF] at qc; cases r <;> exact PostS.step (r := .rt _ S2) qc F1
end
end VL

set_option Elab.async false
set_option linter.all false
set_option autoImplicit false
set_option maxRecDepth 100000
set_option maxHeartbeats 4000000
/-! VL7: comprehensions; an object of ours is shared. -/
namespace VL
open PySem L2

section
variable {X : Cx} {W : WX} {K : PySem.W.Frag} {mg : Str → Option Value} {S S0 S1 S' : Sk} {σ σ1 σ' : St} {H H0 H1 H' : Hp}
def wipeS (S : Sk) : List Nat → Sk
  | [] => S
  | v :: vs => wipeS (S.set v .no) vs
def keepVal (S0 : Sk) (v : Nat) : Sl := match S0[v]? with
  | some (.val x) => .val x
  | _ => .no
def back (S0 S : Sk) : List Nat → Sk
  | [] => S
  | v :: vs => back S0 (S.set v (keepVal S0 v)) vs
theorem set_get {α : Type} (l : List α) (i j : Nat) (x : α) : (l.set i x)[j]? = if i = j then (l[j]?).map fun _ => x else l[j]? := by
  rw [List.getElem?_set]
  split
  · rename_i e
    subst e
    split
    · rename_i h; rw [List.getElem?_eq_getElem h]; rfl
    · rename_i h; rw [List.getElem?_eq_none (by omega)]; rfl
  · rfl
theorem wipeS_get (S : Sk) (vs : List Nat) (i : Nat) : (wipeS S vs)[i]? = if i ∈ vs then (S[i]?).map (fun _ => Sl.no) else S[i]? := by
  induction vs generalizing S with
  | nil => simp [wipeS]
  | cons v vs ih =>
    unfold wipeS
    rw [ih, set_get]
    by_cases e : v = i
    · subst e
      by_cases h : v ∈ vs <;> cases S[v]? <;> simp [h]
    · have e' : ¬ i = v := fun z => e z.symm
      by_cases h : i ∈ vs <;> simp [h, e, e']
theorem back_get (S0 S : Sk) (vs : List Nat) (i : Nat) : (back S0 S vs)[i]? = if i ∈ vs then (S[i]?).map (fun _ => keepVal S0 i) else S[i]? := by
  induction vs generalizing S with
  | nil => simp [back]
  | cons v vs ih =>
    unfold back
    rw [ih, set_get]
    by_cases e : v = i
    · subst e
      by_cases h : v ∈ vs <;> cases S[v]? <;> simp [h]
    · have e' : ¬ i = v := fun z => e z.symm
      by_cases h : i ∈ vs <;> simp [h, e, e']
theorem wipe_get (σ : St) (vs : List Nat) (i : Nat) : (wipe σ vs)[i]? = if i ∈ vs then (σ[i]?).map (fun _ => none) else σ[i]? := by
  induction vs with
  | nil => simp [wipe]
  | cons v vs ih =>
    unfold wipe
    rw [set_get, ih]
    by_cases e : v = i
    · subst e
      by_cases h : v ∈ vs <;> cases σ[v]? <;> simp [h]
    · have e' : ¬ i = v := fun z => e z.symm
      by_cases h : i ∈ vs <;> simp [h, e, e']
theorem wipeS_length (S : Sk) : ∀ vs : List Nat, (wipeS S vs).length = S.length
  | [] => rfl
  | v :: vs => by unfold wipeS; rw [wipeS_length (S.set v .no) vs, List.length_set]
theorem back_length (S0 S : Sk) : ∀ vs : List Nat, (back S0 S vs).length = S.length
  | [] => rfl
  | v :: vs => by unfold back; rw [back_length S0 (S.set v (keepVal S0 v)) vs, List.length_set]
theorem wipe_off {vs : List Nat} (o : Off vs (wipe σ vs) σ') : wipe σ' vs = wipe σ vs := by
  apply List.ext_getElem?
  intro i
  rw [wipe_get, wipe_get]
  by_cases h : i ∈ vs
  · rw [if_pos h, if_pos h]
    have l := o.1
    rw [wipe_length] at l
    by_cases hl : i < σ.length
    · rw [List.getElem?_eq_getElem hl, List.getElem?_eq_getElem (by omega)]; rfl
    · rw [List.getElem?_eq_none (by omega), List.getElem?_eq_none (by omega)]
  · rw [if_neg h, if_neg h, o.2 i h, wipe_get, if_neg h]
theorem wiped {vs : List Nat} {i : Nat} {s : Sl} (h : (wipeS S vs)[i]? = some s) : s = .no ∨ (i ∉ vs ∧ S[i]? = some s) := by
  rw [wipeS_get] at h
  by_cases hv : i ∈ vs
  · rw [if_pos hv] at h
    obtain ⟨t, h1, h2⟩ := Option.map_eq_some_iff.mp h
    exact .inl h2.symm
  · rw [if_neg hv] at h
    exact .inr ⟨hv, h⟩
theorem Owns.wipeO {vs : List Nat} {a : Addr} (h : Owns (wipeS S vs) (wipe σ vs) a) : Owns S σ a := by
  obtain ⟨i, s, h1, h2, h3⟩ := h
  rcases wiped h1 with rfl | ⟨hv, h1⟩
  · cases h2
  · rw [wipe_get, if_neg hv] at h3
    exact ⟨i, s, h1, h2, h3⟩
theorem RelS.wipeR (R : RelS K S σ H) (vs : List Nat) : RelS K (wipeS S vs) (wipe σ vs) H := by
  refine ⟨by rw [wipe_length, wipeS_length]; exact R.len, fun i s h => ?_, fun i j s t a h1 h2 o1 o2 e1 e2 => ?_⟩
  · rcases wiped h with rfl | ⟨hv, h⟩
    · trivial
    · rw [wipe_get, if_neg hv]
      exact R.sl i s h
  · rcases wiped h1 with rfl | ⟨n1, h1⟩
    · cases o1
    · rcases wiped h2 with rfl | ⟨n2, h2⟩
      · cases o2
      · rw [wipe_get, if_neg n1] at e1
        rw [wipe_get, if_neg n2] at e2
        exact R.dj i j s t a h1 h2 o1 o2 e1 e2
theorem Frm.wipeF (vs : List Nat) : Frm S σ H (wipeS S vs) (wipe σ vs) H := by
  refine ⟨fun a o h n => ⟨h, fun w => n w.wipeO⟩, fun i s h p => ?_⟩
  rcases wiped h with rfl | ⟨hv, h⟩
  · cases p
  · rw [wipe_get, if_neg hv]
    exact ⟨⟨s, h, p⟩, rfl⟩
theorem backed {vs : List Nat} {i : Nat} {s : Sl} (h : (back S0 S vs)[i]? = some s) : (i ∈ vs ∧ s = keepVal S0 i) ∨ (i ∉ vs ∧ S[i]? = some s) := by
  rw [back_get] at h
  by_cases hv : i ∈ vs
  · rw [if_pos hv] at h
    obtain ⟨t, h1, h2⟩ := Option.map_eq_some_iff.mp h
    exact .inl ⟨hv, h2.symm⟩
  · rw [if_neg hv] at h
    exact .inr ⟨hv, h⟩
theorem keepVal_no (S0 : Sk) (v : Nat) : ownd (keepVal S0 v) = false ∧ pinned (keepVal S0 v) = false := by
  unfold keepVal
  split <;> exact ⟨rfl, rfl⟩
theorem Owns.back {vs : List Nat} {a : Addr} (h : Owns (back S0 S vs) σ a) : Owns S (wipe σ vs) a := by
  obtain ⟨i, s, h1, h2, h3⟩ := h
  rcases backed h1 with ⟨hv, rfl⟩ | ⟨hv, h1⟩
  · rw [(keepVal_no S0 i).1] at h2; cases h2
  · exact ⟨i, s, h1, h2, by rw [wipe_get, if_neg hv]; exact h3⟩
theorem RelS.back {vs : List Nat} (R0 : RelS K S0 σ H0) (e : Ext H0 H) (R : RelS K S (L2.wipe σ vs) H) : RelS K (back S0 S vs) σ H := by
  refine ⟨by rw [back_length, ← R.len, wipe_length], fun i s h => ?_, fun i j s t a h1 h2 o1 o2 e1 e2 => ?_⟩
  · rcases backed h with ⟨hv, rfl⟩ | ⟨hv, h⟩
    · unfold keepVal
      split
      · rename_i x hx
        obtain ⟨v, h1, h2⟩ := R0.atVal hx
        exact ⟨v, h1, h2.ext e⟩
      · trivial
    · have := R.sl i s h
      rw [wipe_get, if_neg hv] at this
      exact this
  · rcases backed h1 with ⟨n1, rfl⟩ | ⟨n1, h1⟩
    · rw [(keepVal_no S0 i).1] at o1; cases o1
    · rcases backed h2 with ⟨n2, rfl⟩ | ⟨n2, h2⟩
      · rw [(keepVal_no S0 j).1] at o2; cases o2
      · exact R.dj i j s t a h1 h2 o1 o2 (by rw [wipe_get, if_neg n1]; exact e1) (by rw [wipe_get, if_neg n2]; exact e2)
theorem Frm.back {vs : List Nat} (F : Frm S σ H (wipeS S vs) (L2.wipe σ vs) H) (F2 : Frm (wipeS S vs) (L2.wipe σ vs) H S1 (L2.wipe σ vs) H1) : Frm S σ H (back S0 S1 vs) σ H1 := by
  have T := F.trans F2
  refine ⟨fun a o h n => ?_, fun i s h p => ?_⟩
  · obtain ⟨h1, h2⟩ := T.keep a o h n
    exact ⟨h1, fun w => h2 w.back⟩
  · rcases backed h with ⟨hv, rfl⟩ | ⟨hv, h⟩
    · rw [(keepVal_no S0 i).2] at p; cases p
    · exact ⟨(T.io i s h p).1, rfl⟩
/-- what is not ours is written -/
theorem RelS.other (R : RelS K S σ H) {a : Addr} {vs ws : List V} (ha : H a = some (.lst vs)) (n : ¬ Owns S σ a) : RelS K S σ (upd H a (.lst ws)) := by
  have e : Ext H (upd H a (.lst ws)) := ⟨fun b xs h => by rw [upd_ne (ne_of h ha (by intro z; cases z))]; exact h, fun b o w h => by rw [upd_ne (ne_of h ha (by intro z; cases z))]; exact h⟩
  have ne : ∀ (i : Nat) (s : Sl) (b : Addr), S[i]? = some s → ownd s = true → σ[i]? = some (some (V.ref b)) → b ≠ a := fun i s b h1 h2 h3 z => n ⟨i, s, h1, h2, by rw [← z]; exact h3⟩
  refine ⟨R.len, fun i sl h => ?_, R.dj⟩
  cases sl with
  | no => trivial
  | hid => trivial
  | val y =>
    obtain ⟨v, h1, h2⟩ := R.atVal h
    exact ⟨v, h1, h2.ext e⟩
  | own y =>
    obtain ⟨b, w, h1, h2, h3⟩ := R.atOwn h
    exact ⟨b, w, h1, by rw [upd_ne (ne i _ b h rfl h1)]; exact h2, h3.ext e⟩
  | io y =>
    obtain ⟨b, w, h1, h2, h3⟩ := R.atIo h
    exact ⟨b, w, h1, by rw [upd_ne (ne i _ b h rfl h1)]; exact h2, h3.ext e⟩
theorem other_ext {a : Addr} {vs ws : List V} (ha : H a = some (.lst vs)) : Ext H (upd H a (.lst ws)) :=
  ⟨fun b xs h => by rw [upd_ne (ne_of h ha (by intro z; cases z))]; exact h, fun b o w h => by rw [upd_ne (ne_of h ha (by intro z; cases z))]; exact h⟩

/-! ### tests of a comprehension -/
def WF : WX := fun _ _ _ _ => False
structure ETs (X : Cx) (W : WX) (ifs : List Expr) (f : Sk → R Bool) : Prop where
  pts : PTs X ifs (LiftT X.K X.mg W f)
theorem PTs.imp {ifs : List Expr} {t t' : TT} (h : PTs X ifs t) (i : ∀ σ H Q, t' σ H Q → t σ H Q) : PTs X ifs t' := ⟨fun pins s σ H Q I q => h.run pins s σ H Q I (i σ H Q q)⟩
def yesF : Sk → R Bool := fun S => .ok true S
theorem ets_nil : ETs X W [] yesF := ⟨PTs.imp pts_nil fun σ H Q h => liftOkT h⟩
theorem ets_one {c : Expr} {f : Sk → R Bool} (h : ET X W c f) : ETs X W [c] f := ⟨pts_one h.pt⟩

/-! ### the comprehension -/
def compL (g : PV → Sk → Option Sk) (c : Sk → R Bool) (e : Sk → R PV) (vs : List Nat) : List PV → Sk → R (List PV)
  | [], S => .ok [] S
  | x :: xs, S => match g x S with
    | none => .stuck
    | some S1 => (c S1).bind fun b S2 => if b = true then (e S2).bind fun y S3 => (compL g c e vs xs (wipeS S3 vs)).bind fun ys S4 => .ok (y :: ys) S4 else compL g c e vs xs (wipeS S2 vs)
def compF (f : Sk → R (List PV × Option Nat)) (g : PV → Sk → Option Sk) (c : Sk → R Bool) (e : Sk → R PV) (vs : List Nat) : Sk → R PV := fun S => (f S).bind fun r S1 =>
  match compL g c e vs r.1 (wipeS (hideL (mkLd S1 r.2) S1) vs) with
  | .ok ys S2 => if ys.length ≤ 16777216 then (match giveL (mkLd S1 r.2) (back (hideL (mkLd S1 r.2) S1) S2 vs) with
    | some S3 => .ok (.lst ys) S3
    | none => .stuck) else .stuck
  | _ => .stuck
variable {tg iter elt : Expr} {ifs : List Expr} {ts : List Nat} {f : Sk → R (List PV × Option Nat)} {g : PV → Sk → Option Sk} {c : Sk → R Bool} {e : Sk → R PV} {pos : Pos}
theorem comp_ok {J : It} {xs ys : List PV} {pl : Option (Addr × HO)} {vs : List Nat} (w : WP K J xs H pl) (R0 : RelS K S σ H) (hp : Pn pl H) (off : ∀ p, pl = some p → ¬ Owns S σ p.1) (hts : ∀ i ∈ ts, i ∈ vs) {S2 : Sk} (q : compL g c e vs xs (wipeS S vs) = .ok ys S2) (hl : ys.length ≤ 16777216)
    {D : Addr} (hD : H D = none) {Q : Hp → Prop} (hQ : ∀ Hc vacc, RelS K S2 (wipe σ vs) Hc → Frm (wipeS S vs) (wipe σ vs) H S2 (wipe σ vs) Hc → Hc D = some (.lst vacc) → RepA K Hc vacc ys → ¬ Owns S2 (wipe σ vs) D → Q Hc) :
    ∃ V : Nat → Nat → Hp → Prop, (∃ m, V 0 m (upd H D (.lst []))) ∧ ∀ i m H, V i m H →
      (J.stop i H ∧ Q H) ∨ (J.go i H ∧ ∃ Nx : Hp → Prop, (∀ H', Nx H' → ∃ m', m' < m ∧ V (i + 1) m' H') ∧ ∀ x H', J.yld i H x H' → LiftG K ts g x (wipe σ vs) H' fun σ2 H2 => wipe σ2 vs = wipe σ vs ∧ LiftT K mg WF c σ2 H2 fun b H3 =>
        if b = true then LiftE K mg WF e σ2 H3 fun y H4 => ∃ acc, H4 D = some (.lst acc) ∧ acc.length < sizeLine ∧ Nx (upd H4 D (.lst (acc ++ [y]))) else Nx H3) := by
  have Rw := R0.wipeR vs
  refine ⟨fun i m Hc => m = xs.length - i ∧ i ≤ xs.length ∧ ∃ Sc acc vacc zs, RelS K Sc (wipe σ vs) Hc ∧ Frm (wipeS S vs) (wipe σ vs) H Sc (wipe σ vs) Hc ∧ Hc D = some (.lst vacc) ∧ RepA K Hc vacc acc ∧ ¬ Owns Sc (wipe σ vs) D ∧ compL g c e vs (xs.drop i) Sc = .ok zs S2 ∧ acc ++ zs = ys, ?_, ?_⟩
  · exact ⟨xs.length, by simp, Nat.zero_le _, wipeS S vs, [], [], ys, Rw.same (same_upd hD), .same (same_upd hD), upd_same, .nil, Rw.notFree hD, q, rfl⟩
  rintro i m Hc ⟨rfl, hi, Sc, acc, vacc, zs, Rc, Fc, hDc, ra, nD, qc, hy⟩
  have ex := Rw.ext Fc
  have pn : Pn pl Hc := by
    cases pl with
    | none => trivial
    | some p => exact (Fc.keep p.1 p.2 hp fun z => off p rfl z.wipeO).1
  by_cases hlt : i < xs.length
  · refine .inr ⟨w.goes i Hc hlt ex pn, fun H' => xs.length - (i + 1) = xs.length - (i + 1) ∧ i + 1 ≤ xs.length ∧ ∃ Sc acc vacc zs, RelS K Sc (wipe σ vs) H' ∧ Frm (wipeS S vs) (wipe σ vs) H Sc (wipe σ vs) H' ∧ H' D = some (.lst vacc) ∧ RepA K H' vacc acc ∧ ¬ Owns Sc (wipe σ vs) D ∧ compL g c e vs (xs.drop (i + 1)) Sc = .ok zs S2 ∧ acc ++ zs = ys,
      fun H' h => ⟨xs.length - (i + 1), by omega, h⟩, fun v H' y => ?_⟩
    obtain ⟨sm, x, hx, rx⟩ := w.yields i Hc v H' hlt ex pn y
    have hd : xs.drop i = x :: xs.drop (i + 1) := by
      rw [List.drop_eq_getElem_cons hlt]
      congr 1
      rw [List.getElem?_eq_getElem hlt] at hx
      exact Option.some.inj hx
    rw [hd] at qc
    unfold compL at qc
    refine ⟨Sc, x, Rc.same sm, rx, ?_⟩
    cases hg : g x Sc with
    | none => rw [hg] at qc; cases qc
    | some S3 =>
      rw [hg] at qc
      dsimp only at qc
      intro σ2 H2 R2 F2 O2
      have ew : wipe σ2 vs = wipe σ vs := wipe_off (O2.mono hts)
      have F12 := (Frm.same (S := Sc) (σ := wipe σ vs) sm).trans F2
      refine ⟨ew, S3, R2, ?_⟩
      cases hc : c S3 with
      | stuck => rw [hc] at qc; cases qc
      | exc z S4 => rw [hc] at qc; cases qc
      | ok b S4 =>
        rw [hc, R.bind_ok] at qc
        intro H3 R3 F3
        cases b with
        | false =>
          rw [if_neg Bool.false_ne_true] at qc ⊢
          have F4 := (F12.trans F3).trans (Frm.wipeF vs)
          have R4 := R3.wipeR vs
          rw [ew] at F4 R4
          obtain ⟨d1, d2⟩ := F4.keep D _ hDc nD
          exact ⟨rfl, hlt, wipeS S4 vs, acc, vacc, zs, R4, Fc.trans F4, d1, RepA.ext (Rc.ext F4) ra, d2, qc, hy⟩
        | true =>
          rw [if_pos rfl] at qc ⊢
          refine ⟨S4, R3, ?_⟩
          cases he : e S4 with
          | stuck => rw [he] at qc; cases qc
          | exc z S5 => rw [he] at qc; cases qc
          | ok y S5 =>
            rw [he, R.bind_ok] at qc
            cases hr : compL g c e vs (xs.drop (i + 1)) (wipeS S5 vs) with
            | stuck => rw [hr] at qc; cases qc
            | exc z S6 => rw [hr] at qc; cases qc
            | ok zs' S6 =>
              rw [hr, R.bind_ok] at qc
              cases qc
              intro v' H5 rv R5 F5
              have F6 := ((F12.trans F3).trans F5).trans (Frm.wipeF vs)
              have R6 := R5.wipeR vs
              rw [ew] at F6 R6
              obtain ⟨d1, d2⟩ := F6.keep D _ hDc nD
              have xt := other_ext (ws := vacc ++ [v']) d1
              have ra2 := RepA.ext (Rc.ext F6) ra
              refine ⟨vacc, d1, ?_, rfl, hlt, wipeS S5 vs, acc ++ [y], vacc ++ [v'], zs', R6.other d1 d2, ?_, upd_same, RepA.ext xt (ra2.append (.cons rv .nil)), d2, hr, by rw [List.append_assoc]; exact hy⟩
              · rw [sizeLine_eq, ra.length]
                have := congrArg List.length hy
                rw [List.length_append, List.length_cons] at this
                omega
              · have G := Fc.trans F6
                refine ⟨fun b o hb nb => ?_, G.io⟩
                obtain ⟨g1, g2⟩ := G.keep b o hb nb
                exact ⟨by rw [upd_ne (fun z => by rw [z, hD] at hb; cases hb)]; exact g1, g2⟩
  · have ei : i = xs.length := by omega
    subst ei
    rw [List.drop_length] at qc
    cases qc
    rw [List.append_nil] at hy
    subst hy
    exact .inl ⟨w.stops Hc ex pn, hQ Hc vacc Rc Fc hDc ra nD⟩
theorem comp_lift {vs : List Nat} {Q : VK} (hts : ∀ i ∈ ts, i ∈ vs) (h : LiftL K mg W (compF f g c e vs) σ H Q) : tLc (LiftI K mg W f) (LiftG K ts g) (LiftT K mg WF c) (LiftE K mg WF e) vs σ H Q := by
  obtain ⟨S, R0, q⟩ := h
  refine ⟨S, R0, ?_⟩
  unfold compF at q
  cases hf : f S with
  | stuck => rw [hf] at q; exact q
  | exc y S1 => rw [hf] at q; exact q
  | ok r S1 =>
    rw [hf, R.bind_ok] at q
    intro J H1 pl w L R1 F1
    obtain ⟨hd, pn⟩ := hid_of R1 L
    intro D hD
    cases hq : compL g c e vs r.1 (wipeS (hideL (mkLd S1 r.2) S1) vs) with
    | stuck => rw [hq] at q; exact (show False from q).elim
    | exc y S2 => rw [hq] at q; exact (show False from q).elim
    | ok ys S2 =>
      rw [hq] at q
      dsimp only at q
      by_cases hl : ys.length ≤ 16777216
      · rw [if_pos hl] at q
        cases hb : giveL (mkLd S1 r.2) (back (hideL (mkLd S1 r.2) S1) S2 vs) with
        | none => rw [hb] at q; exact (show False from q).elim
        | some S3 =>
          rw [hb] at q
          refine comp_ok w hd.rel pn hd.off hts hq hl hD fun Hc vacc Rc Fc hDc ra nD => ?_
          have ex := (hd.rel.wipeR vs).ext Fc
          have Rb := RelS.back hd.rel ex Rc
          have Fb := Frm.back (S0 := hideL (mkLd S1 r.2) S1) (Frm.wipeF vs) Fc
          obtain ⟨a1, a2, a3⟩ := hd.back _ _ _ _ Rb Fb hb
          refine q D (.lst vacc) Hc hDc ra (fun z => ?_) (fun o ho => ?_) a1 (F1.trans a2)
          · rcases a3 D z with z | ⟨o, ho, _⟩
            · exact nD z.back
            · rw [hD] at ho; cases ho
          · by_cases hw : Owns S σ D
            · exact hw
            · have := (F1.keep D o ho hw).1
              rw [hD] at this; cases this
      · rw [if_neg hl] at q; exact (show False from q).elim

theorem el_comp {scope : Scope} {own : List (Str × Nat)} (hc : X.calm = true) (hN : X.N.Nodup) (hi : EI X W tg iter f) (ok : BlkOk X.N X.env.scope scope own)
    (hg : ∀ (s : Shared) (H : Hp) (C : Addr) (cl : List (Str × Addr)) (fp : List Addr), EG (X.blk s H scope (compEnvC scope cl C X.env) fp) tg ts g) (ht : ∀ (s : Shared) (H : Hp) (C : Addr) (cl : List (Str × Addr)) (fp : List Addr), ETs (X.blk s H scope (compEnvC scope cl C X.env) fp) WF ifs c)
    (he : ∀ (s : Shared) (H : Hp) (C : Addr) (cl : List (Str × Addr)) (fp : List Addr), EV (X.blk s H scope (compEnvC scope cl C X.env) fp) WF elt e) (hts : ∀ i ∈ ts, i ∈ own.map (·.2)) (hs : ∀ x, foldedSetIterable iter X.env x = pure x) :
    EL X W (.ListComp elt [⟨tg, iter, ifs, 0⟩] scope pos) (compF f g c e (own.map (·.2))) := by
  exact ⟨PE.imp (pe_lc (g := LiftG X.K ts g) (tt := LiftT X.K X.mg WF c) (te := LiftE X.K X.mg WF e) hc hN hi.pi ok (fun s H C cl fp => (hg s H C cl fp).pg) (fun s H C cl fp => (ht s H C cl fp).pts) (fun s H C cl fp => (he s H C cl fp).pe) hs) fun σ H Q h => comp_lift hts h⟩
/-! ### an object of ours is given out for good, and still held by its name -/
def shareF (j : Nat) : Sk → R PV := fun S => match S[j]? with
  | some (.own x) => .ok x (S.set j (.val x))
  | some (.val x) => .ok x S
  | _ => .stuck
theorem ev_share {j : Nat} {e : Expr} (h : PE X e (tVar j)) : EV X W e (shareF j) := by
  refine ⟨⟨fun pins s σ H Q I ⟨S, R0, q⟩ => ?_⟩⟩
  unfold shareF at q
  split at q
  · rename_i x hx
    obtain ⟨a, u, h1, h2, h3⟩ := R0.atOwn hx
    refine thn (h.run pins s σ H (fun v H' => v = .ref a ∧ H' = H) I ⟨_, h1, rfl, rfl⟩) fun w s1 ⟨v, H1, I1, rv, ev, eH⟩ => ?_
    subst ev
    subst eH
    obtain ⟨o, I2⟩ := freeze_inv I1 h2 h3
    have ex := freeze_ext (o := o) R0 h2 h3
    have rr : Rep X.K (upd H1 a (.frz o u)) (.ref a) x := (h3.ext ex).frz upd_same
    have nn : ¬ Owns (S.set j .no) σ a := fun w => by
      obtain ⟨k, t, k1, k2, k3⟩ := w
      rcases get_set k1 with ⟨rfl, rfl⟩ | ⟨ne, k1⟩
      · cases k2
      · exact ne (R0.dj j k _ t a hx k1 rfl k2 h1 k3)
    have R2 : RelS X.K (S.set j .no) σ (upd H1 a (.frz o u)) := (R0.setNo j).freeze h2 h3 nn
    refine ⟨.ref a, _, I2, rv, q _ _ rr ⟨by rw [List.length_set]; exact R0.len, fun k t ht => ?_, fun k l t t' b g1 g2 o1 o2 w1 w2 => ?_⟩ ⟨fun b ob hb nb => ⟨?_, fun w => ?_⟩, fun k t ht p => ?_⟩⟩
    · rcases get_set ht with ⟨rfl, rfl⟩ | ⟨ne, ht⟩
      · exact ⟨_, h1, rr⟩
      · exact R2.sl k t (by rw [List.getElem?_set_ne ne]; exact ht)
    · rcases get_set g1 with ⟨rfl, rfl⟩ | ⟨n1, q1⟩
      · cases o1
      · rcases get_set g2 with ⟨rfl, rfl⟩ | ⟨n2, q2⟩
        · cases o2
        · exact R0.dj k l t t' b q1 q2 o1 o2 w1 w2
    · rw [upd_ne (fun z => by subst z; exact nb ⟨j, _, hx, rfl, h1⟩)]
      exact hb
    · obtain ⟨k, t, k1, k2, k3⟩ := w
      rcases get_set k1 with ⟨rfl, rfl⟩ | ⟨ne, k1⟩
      · cases k2
      · exact nb ⟨k, t, k1, k2, k3⟩
    · rcases get_set ht with ⟨rfl, rfl⟩ | ⟨ne, ht⟩
      · cases p
      · exact ⟨⟨t, ht, p⟩, rfl⟩
  · rename_i x hx
    obtain ⟨v, h1, h2⟩ := R0.atVal hx
    exact h.run pins s σ H Q I ⟨v, h1, q v H h2 R0 .refl⟩
  · exact (show False from q).elim
end
end VL

set_option Elab.async false
set_option linter.all false
set_option autoImplicit false
set_option maxRecDepth 100000
set_option maxHeartbeats 4000000
/-! VL8: defs, calls. -/
namespace VL
open PySem L2

inductive FR where
  | stuck | ok (r : RV) (outs : List Sl) | exc (e : Exn) (outs : List Sl)
abbrev Fn := List Sl → FR
/-- what is lent is still there -/
def ioOk : List Sl → Sk → Bool
  | [], _ => true
  | .io _ :: as, .io _ :: ss => ioOk as ss
  | .io _ :: _, _ => false
  | .val _ :: as, _ :: ss => ioOk as ss
  | _, _ => false
def O.toFR (args : List Sl) : O → FR
  | .nx S => if ioOk args S = true then .ok (.v .non) S else .stuck
  | .rt r S => if ioOk args S = true then .ok r S else .stuck
  | .exc e S => if ioOk args S = true then .exc e S else .stuck
  | _ => .stuck
/-- np parameters, n names -/
def mkFn (np n : Nat) (body : Sk → O) : Fn := fun args => if args.length = np then (body (args ++ List.replicate (n - np) .no)).toFR args else .stuck

section
variable {X : Cx} {W : WX} {K : PySem.W.Frag} {mg : Str → Option Value} {S S0 S1 S2 S' : Sk} {σ σ1 σ' : St} {H H0 H1 H' : Hp}
structure Fin (K : PySem.W.Frag) (args : List Sl) (vs : List V) (H : Hp) (outs : List Sl) (H' : Hp) : Prop where
  out : ∀ (i : Nat) (x y : PV), args[i]? = some (.io x) → outs[i]? = some (.io y) → ∃ a u, vs[i]? = some (V.ref a) ∧ H' a = some u ∧ RepOb K H' u y
  all : ∀ (i : Nat) (x : PV), args[i]? = some (.io x) → ∃ y, outs[i]? = some (.io y)
  keep : ∀ a o, H a = some o → ¬ Owns args (vs.map some) a → H' a = some o
def SpOf (K : PySem.W.Frag) (mg : Str → Option Value) (fn : Fn) : Sp := fun vs H Q E => ∃ args : List Sl, RelS K args (vs.map some) H ∧ match fn args with
  | .stuck => False
  | .ok (.v x) outs => ∀ v H', Rep K H' v x → Fin K args vs H outs H' → Q v H'
  | .ok (.l x) outs => ∀ p u H', H' p = some u → RepOb K H' u x → H p = none → Fin K args vs H outs H' → Q (.ref p) H'
  | .exc e outs => ∀ cls d H', ExnRep K mg H' cls d e → Fin K args vs H outs H' → E cls d H'
theorem ioOk_get : ∀ {args : List Sl} {S : Sk}, ioOk args S = true → ∀ (i : Nat) (x : PV), args[i]? = some (.io x) → ∃ y, S[i]? = some (.io y)
  | [], S, _, i, x, h => by simp at h
  | .io _ :: as, .io y :: ss, h, 0, x, e => ⟨y, rfl⟩
  | .io _ :: as, .io y :: ss, h, i + 1, x, e => by
    have := ioOk_get (args := as) (S := ss) h i x (by simpa using e)
    simpa using this
  | .val _ :: as, _ :: ss, h, 0, x, e => by simp at e
  | .val _ :: as, _ :: ss, h, i + 1, x, e => by
    have := ioOk_get (args := as) (S := ss) h i x (by simpa using e)
    simpa using this
  | .io _ :: as, [], h, i, x, e => by cases h
  | .io _ :: as, .no :: ss, h, i, x, e => by cases h
  | .io _ :: as, .val _ :: ss, h, i, x, e => by cases h
  | .io _ :: as, .own _ :: ss, h, i, x, e => by cases h
  | .io _ :: as, .hid :: ss, h, i, x, e => by cases h
  | .val _ :: as, [], h, i, x, e => by cases h
  | .no :: as, _, h, i, x, e => by cases h
  | .own _ :: as, _, h, i, x, e => by cases h
  | .hid :: as, _, h, i, x, e => by cases h
theorem ioOk_own : ∀ {args : List Sl} {S : Sk}, ioOk args S = true → ∀ (i : Nat) (s : Sl), args[i]? = some s → ownd s = true → ∃ x, s = .io x
  | [], S, _, i, s, h, _ => by simp at h
  | .io _ :: as, .io y :: ss, h, 0, s, e, o => by cases e; exact ⟨_, rfl⟩
  | .io _ :: as, .io y :: ss, h, i + 1, s, e, o => ioOk_own (args := as) (S := ss) h i s (by simpa using e) o
  | .val _ :: as, _ :: ss, h, 0, s, e, o => by cases e; cases o
  | .val _ :: as, _ :: ss, h, i + 1, s, e, o => ioOk_own (args := as) (S := ss) h i s (by simpa using e) o
  | .io _ :: as, [], h, i, s, e, o => by cases h
  | .io _ :: as, .no :: ss, h, i, s, e, o => by cases h
  | .io _ :: as, .val _ :: ss, h, i, s, e, o => by cases h
  | .io _ :: as, .own _ :: ss, h, i, s, e, o => by cases h
  | .io _ :: as, .hid :: ss, h, i, s, e, o => by cases h
  | .val _ :: as, [], h, i, s, e, o => by cases h
  | .no :: as, _, h, i, s, e, o => by cases h
  | .own _ :: as, _, h, i, s, e, o => by cases h
  | .hid :: as, _, h, i, s, e, o => by cases h
theorem app_get {α : Type} {as : List α} {n i : Nat} {d x : α} (h : (as ++ List.replicate n d)[i]? = some x) : as[i]? = some x ∨ x = d := by
  by_cases hl : i < as.length
  · rw [List.getElem?_append_left hl] at h
    exact .inl h
  · rw [List.getElem?_append_right (by omega)] at h
    exact .inr (List.mem_replicate.mp (List.mem_of_getElem? h)).2
theorem start_get {N : List Str} {vs : List V} {i : Nat} {o : Option V} (h : (vs.map some)[i]? = some o) : (L2.start N vs)[i]? = some o := by
  unfold L2.start
  have hl : i < (vs.map some).length := (List.getElem?_eq_some_iff.mp h).1
  rw [List.getElem?_append_left hl]
  exact h
theorem start_own {N : List Str} {args : List Sl} {n : Nat} {vs : List V} (hl : (vs.map some).length = args.length) {a : Addr} : Owns (args ++ List.replicate n .no) (L2.start N vs) a ↔ Owns args (vs.map some) a := by
  constructor
  · rintro ⟨i, s, h1, h2, h3⟩
    rcases app_get h1 with h1 | rfl
    · have li : i < args.length := (List.getElem?_eq_some_iff.mp h1).1
      unfold L2.start at h3
      rw [List.getElem?_append_left (by omega)] at h3
      exact ⟨i, s, h1, h2, h3⟩
    · cases h2
  · rintro ⟨i, s, h1, h2, h3⟩
    have li : i < args.length := (List.getElem?_eq_some_iff.mp h1).1
    exact ⟨i, s, by rw [List.getElem?_append_left li]; exact h1, h2, start_get h3⟩
theorem start_rel {N : List Str} {args : List Sl} {vs : List V} (R : RelS K args (vs.map some) H) (hn : args.length ≤ N.length) : RelS K (args ++ List.replicate (N.length - args.length) .no) (L2.start N vs) H := by
  have hl := R.len
  rw [List.length_map] at hl
  have get : ∀ i, i < args.length → (L2.start N vs)[i]? = (vs.map some)[i]? := fun i hi => by
    unfold L2.start
    rw [List.getElem?_append_left (by rw [List.length_map]; omega)]
  refine ⟨?_, fun i s h => ?_, fun i j s t a h1 h2 o1 o2 e1 e2 => ?_⟩
  · unfold L2.start
    simp only [List.length_append, List.length_map, List.length_replicate]
    omega
  · rcases app_get h with h | rfl
    · rw [get i (List.getElem?_eq_some_iff.mp h).1]
      exact R.sl i s h
    · trivial
  · rcases app_get h1 with h1 | rfl
    · rcases app_get h2 with h2 | rfl
      · rw [get i (List.getElem?_eq_some_iff.mp h1).1] at e1
        rw [get j (List.getElem?_eq_some_iff.mp h2).1] at e2
        exact R.dj i j s t a h1 h2 o1 o2 e1 e2
      · cases o2
    · cases o1
/-- the end of a body -/
theorem fin_of {N : List Str} {args : List Sl} {vs : List V} {n : Nat} (R : RelS K args (vs.map some) H) (ok : ioOk args S' = true) (R' : RelS K S' σ' H') (F : Frm (args ++ List.replicate n .no) (L2.start N vs) H S' σ' H') : Fin K args vs H S' H' := by
  refine ⟨fun i x y h1 h2 => ?_, fun i x h => ioOk_get ok i x h, fun a o ha no => (F.keep a o ha fun w => no ((start_own R.len).mp w)).1⟩
  obtain ⟨a, u, e1, e2, e3⟩ := R'.atIo h2
  obtain ⟨_, e4⟩ := F.io i _ h2 rfl
  have q := R.atIo h1
  obtain ⟨b, w, g1, g2, g3⟩ := q
  rw [start_get g1] at e4
  rw [e4] at e1
  cases e1
  rw [List.getElem?_map] at g1
  obtain ⟨v, k1, k2⟩ := Option.map_eq_some_iff.mp g1
  cases k2
  exact ⟨_, u, k1, e2, e3⟩
theorem fin_fresh {N : List Str} {args : List Sl} {vs : List V} {n : Nat} (R : RelS K args (vs.map some) H) (ok : ioOk args S' = true) (F : Frm (args ++ List.replicate n .no) (L2.start N vs) H S' σ' H') {p : Addr} (h3 : ¬ Owns S' σ' p) (h4 : ∀ o, H p = some o → Owns (args ++ List.replicate n .no) (L2.start N vs) p) : H p = none := by
  cases hp : H p with
  | none => rfl
  | some o =>
    obtain ⟨i, s, k1, k2, k3⟩ := h4 o hp
    rcases app_get k1 with k1 | rfl
    · obtain ⟨x, rfl⟩ := ioOk_own ok i s k1 k2
      obtain ⟨y, hy⟩ := ioOk_get ok i x k1
      obtain ⟨_, e⟩ := F.io i _ hy rfl
      exact absurd ⟨i, _, hy, rfl, e.trans k3⟩ h3
    · cases k2
/-- a body keeps its promise -/
theorem body_ok {N : List Str} {np : Nat} {body : Sk → O} {vs : List V} {Q : VK} {E : XK} (hn : np ≤ N.length) (h : SpOf K mg (mkFn np N.length body) vs H Q E) :
    LiftS K mg (fun cls d _ H => E cls d H) body { nx := fun _ H' => Q .non H', rt := Q } (L2.start N vs) H := by
  obtain ⟨args, R, q⟩ := h
  unfold mkFn at q
  by_cases hl : args.length = np
  · rw [if_pos hl] at q
    have hn' : args.length ≤ N.length := by omega
    refine ⟨_, start_rel R hn', ?_⟩
    rw [← hl] at q
    cases hb : body (args ++ List.replicate (N.length - args.length) .no) with
    | stuck => rw [hb] at q; exact q
    | bk S' => rw [hb] at q; exact q.elim
    | ct S' => rw [hb] at q; exact q.elim
    | nx S' =>
      rw [hb] at q
      dsimp only [O.toFR] at q
      by_cases ok : ioOk args S' = true
      · rw [if_pos ok] at q
        exact fun σ' H' R' F' => q .non H' .non (fin_of R ok R' F')
      · rw [if_neg ok] at q; exact q.elim
    | exc e S' =>
      rw [hb] at q
      dsimp only [O.toFR] at q
      by_cases ok : ioOk args S' = true
      · rw [if_pos ok] at q
        exact fun cls d σ' H' er R' F' => q cls d H' er (fin_of R ok R' F')
      · rw [if_neg ok] at q; exact q.elim
    | rt r S' =>
      rw [hb] at q
      dsimp only [O.toFR] at q
      by_cases ok : ioOk args S' = true
      · rw [if_pos ok] at q
        cases r with
        | v x => exact fun v σ' H' rv R' F' => q v H' rv (fin_of R ok R' F')
        | l x => exact fun p u σ' H' h1 h2 h3 h4 R' F' => q p u H' h1 h2 (fin_fresh R ok F' h3 h4) (fin_of R ok R' F')
      · rw [if_neg ok] at q; exact q.elim
  · rw [if_neg hl] at q; exact q.elim
theorem sp_len {np n : Nat} {body : Sk → O} {vs : List V} {Q : VK} {E : XK} (h : SpOf K mg (mkFn np n body) vs H Q E) : vs.length = np := by
  obtain ⟨args, R, q⟩ := h
  have l := R.len
  rw [List.length_map] at l
  unfold mkFn at q
  by_cases hl : args.length = np
  · omega
  · rw [if_neg hl] at q; exact q.elim
abbrev bodyCx (P : Program) (w : World) (K : PySem.W.Frag) (mg : Str → Option Value) (base : Heap) (N : List Str) (qual : Str) (scope : Scope) (f : Addr) (cdv : Value) (A : Around) (outer : List Env) (s : Shared) (H : Hp) (E : XK) : Cx := cxOf (L2.CX P w) P w K mg base N qual scope f cdv A outer s H E
abbrev bodyW (E : XK) : WX := fun cls d _ H => E cls d H
theorem fn_ok {P : Program} {w : World} {base : Heap} {x qual : Str} {params : Arguments} {body : List Stmt} {scope : Scope} {dvs : List V} {kws : List (Str × V)} {f : Addr} {fd : FuncData} {N ps : List Str} {np k : Nat} {F : Sk → O}
    (Fd : FunD K x qual params body scope dvs kws f fd) (Sc : FnScope N ps scope) (hp : ps.length = np) (hn : np ≤ N.length)
    (hb : ∀ (cdv : Value) (A : Around) (outer : List Env) (s : Shared) (H : Hp) (E : XK), Room k (A.deeper (PyProof.Rows.envOfC qual scope s.heap.objs.size f cdv)) → Takes (bodyCx P w K mg base N qual scope f cdv A outer s H E) (bodyW E) →
      VSs (bodyCx P w K mg base N qual scope f cdv A outer s H E) (bodyW E) body F) : FnOk P w K mg base (L2.CX P w) (k + 1) f fd ps (SpOf K mg (mkFn np N.length F)) := by
  refine Fd.ok Sc (fun vs H Q E h => by rw [hp]; exact sp_len h) fun cdv A outer s H vs Q E hr h => ⟨_, (hb cdv A outer s H E hr (takes_of rfl rfl rfl rfl)).ps, body_ok hn h⟩

/-! ### calls -/
def argOf (S : Sk) : OV → Option Sl
  | .v x => some (.val x)
  | .s j => (getO S j).map Sl.io
def argsOf (S : Sk) : List OV → Option (List Sl)
  | [] => some []
  | o :: os => match argOf S o, argsOf S os with
    | some a, some as => some (a :: as)
    | _, _ => none
def slotsOf : List OV → List Nat
  | [] => []
  | .s j :: os => j :: slotsOf os
  | .v _ :: os => slotsOf os
def putOuts : Sk → List OV → List Sl → Option Sk
  | S, [], _ => some S
  | S, .v _ :: os, _ :: outs => putOuts S os outs
  | S, .s j :: os, .io y :: outs => putOuts (putO S j y) os outs
  | _, _, _ => none
def callG {α : Type} (fn : Fn) (pick : RV → Option α) (fa : Sk → R (List OV)) : Sk → R α := fun S => (fa S).bind fun os S1 => if (slotsOf os).Nodup then (match argsOf S1 os with
  | none => .stuck
  | some args => (match fn args with
    | .stuck => .stuck
    | .ok r outs => (match pick r, putOuts S1 os outs with
      | some x, some S2 => .ok x S2
      | _, _ => .stuck)
    | .exc e outs => (match putOuts S1 os outs with
      | some S2 => .exc e S2
      | none => .stuck))) else .stuck
def pickV : RV → Option PV
  | .v x => some x
  | .l _ => none
def pickL : RV → Option PV
  | .l x => some x
  | .v _ => none
def callF (fn : Fn) (fa : Sk → R (List OV)) : Sk → R PV := callG fn pickV fa
def callLF (fn : Fn) (fa : Sk → R (List OV)) : Sk → R PV := callG fn pickL fa
theorem args_get : ∀ {os : List OV} {vs : List V} {args : List Sl}, OVs K σ H os vs → argsOf S os = some args → ∀ (i : Nat) (s : Sl), args[i]? = some s → ∃ o v, os[i]? = some o ∧ vs[i]? = some v ∧ OVRel K σ H o v ∧ argOf S o = some s
  | [], [], args, _, e, i, s, h => by cases e; simp at h
  | o :: os, v :: vs, args, ov, e, i, s, h => by
    unfold argsOf at e
    split at e
    · rename_i a as h1 h2
      cases e
      cases i with
      | zero => cases h; exact ⟨o, v, rfl, rfl, ov.1, h1⟩
      | succ i =>
        obtain ⟨o', v', g1, g2, g3, g4⟩ := args_get ov.2 h2 i s (by simpa using h)
        exact ⟨o', v', by simpa using g1, by simpa using g2, g3, g4⟩
    · cases e
  | [], _ :: _, _, h, _, _, _, _ => h.elim
  | _ :: _, [], _, h, _, _, _, _ => h.elim
theorem args_len : ∀ {os : List OV} {vs : List V} {args : List Sl}, OVs K σ H os vs → argsOf S os = some args → vs.length = args.length ∧ os.length = args.length
  | [], [], args, _, e => by cases e; exact ⟨rfl, rfl⟩
  | o :: os, v :: vs, args, ov, e => by
    unfold argsOf at e
    split at e
    · rename_i a as h1 h2
      cases e
      obtain ⟨l1, l2⟩ := args_len ov.2 h2
      simp [l1, l2]
    · cases e
  | [], _ :: _, _, h, _ => h.elim
  | _ :: _, [], _, h, _ => h.elim
theorem slots_nodup : ∀ {os : List OV}, (slotsOf os).Nodup → ∀ (i k j : Nat), os[i]? = some (.s j) → os[k]? = some (.s j) → i = k
  | [], _, i, k, j, h, _ => by simp at h
  | .v _ :: os, n, i, k, j, h, h' => by
    cases i with
    | zero => cases h
    | succ i =>
      cases k with
      | zero => cases h'
      | succ k => exact congrArg Nat.succ (slots_nodup (os := os) n i k j (by simpa using h) (by simpa using h'))
  | .s l :: os, n, i, k, j, h, h' => by
    have n' := List.nodup_cons.mp (show (l :: slotsOf os).Nodup from n)
    have mem : ∀ (os : List OV) (i : Nat), os[i]? = some (.s j) → j ∈ slotsOf os := by
      intro os
      induction os with
      | nil => intro i e; simp at e
      | cons o os ih =>
        intro i e
        cases i with
        | zero => cases e; exact List.mem_cons_self
        | succ i =>
          have := ih i (by simpa using e)
          cases o with
          | v x => exact this
          | s m => exact List.mem_cons_of_mem _ this
    cases i with
    | zero =>
      cases h
      cases k with
      | zero => rfl
      | succ k => exact absurd (mem os k (by simpa using h')) n'.1
    | succ i =>
      cases k with
      | zero =>
        cases h'
        exact absurd (mem os i (by simpa using h)) n'.1
      | succ k => exact congrArg Nat.succ (slots_nodup (os := os) n'.2 i k j (by simpa using h) (by simpa using h'))
theorem args_rel {os : List OV} {vs : List V} {args : List Sl} (R : RelS K S σ H) (ov : OVs K σ H os vs) (e : argsOf S os = some args) (nd : (slotsOf os).Nodup) : RelS K args (vs.map some) H ∧ ∀ a, Owns args (vs.map some) a → Owns S σ a := by
  have at' : ∀ (i : Nat) (s : Sl), args[i]? = some s → ownd s = true → ∃ j x a, os[i]? = some (.s j) ∧ getO S j = some x ∧ s = .io x ∧ vs[i]? = some (V.ref a) ∧ σ[j]? = some (some (V.ref a)) ∧ ∃ u, H a = some u ∧ RepOb K H u x := by
    intro i s h o
    obtain ⟨ob, v, h1, h2, h3, h4⟩ := args_get ov e i s h
    cases ob with
    | v x => cases h4; cases o
    | s j =>
      obtain ⟨x, g1, g2⟩ := Option.map_eq_some_iff.mp (show (getO S j).map Sl.io = some s from h4)
      obtain ⟨a, u, k1, k2, k3, k4⟩ := getO_rel R g1
      have h3' : σ[j]? = some (some v) := h3
      rw [h3'] at k1
      cases k1
      exact ⟨j, x, a, h1, g1, g2.symm, h2, h3', u, k2, k3⟩
  refine ⟨⟨by rw [List.length_map]; exact (args_len ov e).1, fun i s h => ?_, fun i k s t a h1 h2 o1 o2 e1 e2 => ?_⟩, fun a ⟨i, s, h1, h2, h3⟩ => ?_⟩
  · obtain ⟨o, v, h1, h2, h3, h4⟩ := args_get ov e i s h
    rw [List.getElem?_map, h2]
    cases o with
    | v x =>
      cases h4
      exact ⟨v, rfl, h3⟩
    | s j =>
      obtain ⟨x, g1, g2⟩ := Option.map_eq_some_iff.mp (show (getO S j).map Sl.io = some s from h4)
      subst g2
      obtain ⟨a, u, k1, k2, k3, k4⟩ := getO_rel R g1
      have h3' : σ[j]? = some (some v) := h3
      rw [h3'] at k1
      cases k1
      exact ⟨a, u, rfl, k2, k3⟩
  · obtain ⟨j, x, b, a1, a2, a3, a4, a5, u, a6, a7⟩ := at' i s h1 o1
    obtain ⟨l, y, c, b1, b2, b3, b4, b5, w, b6, b7⟩ := at' k t h2 o2
    rw [List.getElem?_map, a4] at e1
    rw [List.getElem?_map, b4] at e2
    cases e1
    cases e2
    rcases getO_slot a2 with q1 | q1 <;> rcases getO_slot b2 with q2 | q2
    all_goals
      have := R.dj j l _ _ _ q1 q2 rfl rfl a5 b5
      subst this
      exact slots_nodup nd i k j a1 b1
  · obtain ⟨j, x, b, a1, a2, a3, a4, a5, u, a6, a7⟩ := at' i s h1 h2
    rw [List.getElem?_map, a4] at h3
    cases h3
    rcases getO_slot a2 with q1 | q1
    · exact ⟨j, _, q1, rfl, a5⟩
    · exact ⟨j, _, q1, rfl, a5⟩
theorem putO_get {j i : Nat} {y : PV} : (putO S j y)[i]? = if i = j then (match S[j]? with
    | some (.own _) => some (.own y)
    | some (.io _) => some (.io y)
    | o => o) else S[i]? := by
  unfold putO
  split
  · rename_i x hx
    rw [set_get]
    by_cases e : i = j
    · subst e; rw [if_pos rfl, if_pos rfl, hx]; rfl
    · rw [if_neg (fun z => e z.symm), if_neg e]
  · rename_i x hx
    rw [set_get]
    by_cases e : i = j
    · subst e; rw [if_pos rfl, if_pos rfl, hx]; rfl
    · rw [if_neg (fun z => e z.symm), if_neg e]
  · rename_i h1 h2
    by_cases e : i = j
    · subst e
      refine Eq.trans ?_ (if_pos rfl).symm
      cases hs : S[i]? with
      | none => rfl
      | some s =>
        cases s with
        | own x => exact absurd hs (h1 x)
        | io x => exact absurd hs (h2 x)
        | no => rfl
        | val x => rfl
        | hid => rfl
    · rw [if_neg e]
theorem putO_length {j : Nat} {y : PV} : (putO S j y).length = S.length := by
  unfold putO
  split
  · exact List.length_set
  · exact List.length_set
  · rfl
/-- the slots behind a call -/
theorem put_slots {H' : Hp} : ∀ {os : List OV} {outs : List Sl} {S S2 : Sk} (R : List V), putOuts S os outs = some S2 → OVs K σ H os R →
    (∀ (i j : Nat) (y : PV), os[i]? = some (.s j) → outs[i]? = some (.io y) → ∃ a u, R[i]? = some (V.ref a) ∧ H' a = some u ∧ RepOb K H' u y) →
    S2.length = S.length ∧ (∀ (i : Nat) (s : Sl), S2[i]? = some s → ∃ t, S[i]? = some t ∧ ownd s = ownd t ∧ pinned s = pinned t ∧ (s = t ∨ SlRel K H' s σ[i]?)) ∧ ∀ (i : Nat) (j : Nat), os[i]? = some (.s j) → ∀ s, S2[j]? = some s → ownd s = true → SlRel K H' s σ[j]?
  | [], outs, S, S2, R, e, ov, ho => by
    have e' : some S = some S2 := by unfold putOuts at e; exact e
    cases e'
    exact ⟨rfl, fun i s h => ⟨s, h, rfl, rfl, .inl rfl⟩, fun i j h => by simp at h⟩
  | .v x :: os, o :: outs, S, S2, v :: R, e, ov, ho => by
    obtain ⟨h1, h2, h3⟩ := put_slots (os := os) (outs := outs) R e ov.2 fun i j y a b => by
      have := ho (i + 1) j y (by simpa using a) (by simpa using b)
      simpa using this
    refine ⟨h1, h2, fun i j h => ?_⟩
    cases i with
    | zero => cases h
    | succ i => exact h3 i j (by simpa using h)
  | .s j :: os, .io y :: outs, S, S2, v :: R, e, ov, ho => by
    obtain ⟨h1, h2, h3⟩ := put_slots (os := os) (outs := outs) R (show putOuts (putO S j y) os outs = some S2 from e) ov.2 fun i j y a b => by
      have := ho (i + 1) j y (by simpa using a) (by simpa using b)
      simpa using this
    obtain ⟨a, u, k1, k2, k3⟩ := ho 0 j y rfl rfl
    cases k1
    have hv : σ[j]? = some (some (V.ref a)) := ov.1
    have own : ∀ s, S2[j]? = some s → ownd s = true → SlRel K H' s σ[j]? := by
      intro s hs os
      obtain ⟨t, t1, t2, t3, t4⟩ := h2 j s hs
      rcases t4 with rfl | t4
      · rw [putO_get, if_pos rfl] at t1
        split at t1
        · cases t1; exact ⟨a, u, hv, k2, k3⟩
        · cases t1; exact ⟨a, u, hv, k2, k3⟩
        · rename_i n1 n2
          cases s with
          | own z => exact absurd t1 (n1 z)
          | io z => exact absurd t1 (n2 z)
          | _ => cases os
      · exact t4
    refine ⟨h1.trans putO_length, fun i s h => ?_, fun i l h s hs os => ?_⟩
    · obtain ⟨t, t1, t2, t3, t4⟩ := h2 i s h
      rw [putO_get] at t1
      by_cases ei : i = j
      · subst ei
        rw [if_pos rfl] at t1
        split at t1
        · rename_i z hz
          cases t1
          exact ⟨_, hz, t2, t3, .inr (own s h t2)⟩
        · rename_i z hz
          cases t1
          exact ⟨_, hz, t2, t3, .inr (own s h t2)⟩
        · exact ⟨t, t1, t2, t3, t4⟩
      · rw [if_neg ei] at t1
        exact ⟨t, t1, t2, t3, t4⟩
    · cases i with
      | zero =>
        cases h
        exact own s hs os
      | succ i => exact h3 i l (by simpa using h) s hs os
  | .s j :: os, [], S, S2, R, e, ov, ho => by cases e
  | .s j :: os, .no :: outs, S, S2, R, e, ov, ho => by cases e
  | .s j :: os, .val _ :: outs, S, S2, R, e, ov, ho => by cases e
  | .s j :: os, .own _ :: outs, S, S2, R, e, ov, ho => by cases e
  | .s j :: os, .hid :: outs, S, S2, R, e, ov, ho => by cases e
  | .v x :: os, [], S, S2, R, e, ov, ho => by cases e
  | .v x :: os, _ :: outs, S, S2, [], e, ov, ho => ov.elim
  | .s x :: os, .io _ :: outs, S, S2, [], e, ov, ho => ov.elim
theorem put_ok {os : List OV} {vs : List V} {args outs : List Sl} (R : RelS K S σ H) (ov : OVs K σ H os vs) (e : argsOf S os = some args) (nd : (slotsOf os).Nodup) (F : Fin K args vs H outs H') (ep : putOuts S os outs = some S2) : RelS K S2 σ H' ∧ Frm S σ H S2 σ H' := by
  obtain ⟨Ra, sub⟩ := args_rel R ov e nd
  have keep : ∀ a o, H a = some o → ¬ Owns S σ a → H' a = some o := fun a o h n => F.keep a o h fun w => n (sub a w)
  have ex : Ext H H' := ⟨fun a xs h => keep a _ h (R.notTup h), fun a o u h => keep a _ h (R.notFrz h)⟩
  have hout : ∀ (i j : Nat) (y : PV), os[i]? = some (.s j) → outs[i]? = some (.io y) → ∃ a u, vs[i]? = some (V.ref a) ∧ H' a = some u ∧ RepOb K H' u y := by
    intro i j y h1 h2
    have li : i < args.length := by rw [← (args_len ov e).2]; exact (List.getElem?_eq_some_iff.mp h1).1
    obtain ⟨o, v, g1, g2, g3, g4⟩ := args_get ov e i _ (List.getElem?_eq_getElem li)
    rw [h1] at g1
    cases g1
    obtain ⟨x, q1, q2⟩ := Option.map_eq_some_iff.mp (show (getO S j).map Sl.io = some args[i] from g4)
    exact F.out i x y (by rw [List.getElem?_eq_getElem li, ← q2]) h2
  obtain ⟨h1, h2, h3⟩ := put_slots (K := K) (H := H) (H' := H') vs ep ov hout
  refine ⟨⟨by rw [h1]; exact R.len, fun i s h => ?_, fun i j s t a g1 g2 o1 o2 e1 e2 => ?_⟩, fun a o h n => ⟨keep a o h n, fun w => ?_⟩, fun i s h p => ?_⟩
  · obtain ⟨t, t1, t2, t3, t4⟩ := h2 i s h
    rcases t4 with rfl | t4
    · by_cases hi : ∃ k : Nat, os[k]? = some (OV.s i)
      · obtain ⟨k, hk⟩ := hi
        cases ho : ownd s with
        | true => exact h3 k i hk s h ho
        | false =>
          have q := R.sl i s t1
          cases s with
          | val y => exact (show ∃ v, σ[i]? = some (some v) ∧ Rep K H v y from q).imp fun v z => ⟨z.1, z.2.ext ex⟩
          | no => trivial
          | hid => trivial
          | own y => cases ho
          | io y => cases ho
      · have free : ∀ (x : PV) a u, getO S i = some x → σ[i]? = some (some (V.ref a)) → H a = some u → H' a = some u := by
          intro x a u hx ha hu
          refine F.keep a u hu fun ⟨k, s', k1, k2, k3⟩ => hi ?_
          obtain ⟨o, v, g1, g2, g3, g4⟩ := args_get ov e k s' k1
          cases o with
          | v z => cases g4; cases k2
          | s l =>
            obtain ⟨z, q1, q2⟩ := Option.map_eq_some_iff.mp (show (getO S l).map Sl.io = some s' from g4)
            rw [List.getElem?_map, g2] at k3
            cases k3
            have g3' : σ[l]? = some (some (V.ref a)) := g3
            have : l = i := by
              rcases getO_slot q1 with w1 | w1 <;> rcases getO_slot hx with w2 | w2
              all_goals exact R.dj l i _ _ a w1 w2 rfl rfl g3' ha
            subst this
            exact ⟨k, g1⟩
        have q := R.sl i s t1
        cases s with
        | val y => exact (show ∃ v, σ[i]? = some (some v) ∧ Rep K H v y from q).imp fun v z => ⟨z.1, z.2.ext ex⟩
        | no => trivial
        | hid => trivial
        | own y =>
          obtain ⟨a, u, a1, a2, a3⟩ := R.atOwn t1
          exact ⟨a, u, a1, free y a u (by unfold getO; rw [t1]) a1 a2, a3.ext ex⟩
        | io y =>
          obtain ⟨a, u, a1, a2, a3⟩ := R.atIo t1
          exact ⟨a, u, a1, free y a u (by unfold getO; rw [t1]) a1 a2, a3.ext ex⟩
    · exact t4
  · obtain ⟨t', t1, t2, t3, t4⟩ := h2 i s g1
    obtain ⟨t'', u1, u2, u3, u4⟩ := h2 j t g2
    exact R.dj i j t' t'' a t1 u1 (by rw [← t2]; exact o1) (by rw [← u2]; exact o2) e1 e2
  · obtain ⟨i, s, w1, w2, w3⟩ := w
    obtain ⟨t, t1, t2, t3, t4⟩ := h2 i s w1
    exact n ⟨i, t, t1, by rw [← t2]; exact w2, w3⟩
  · obtain ⟨t, t1, t2, t3, t4⟩ := h2 i s h
    exact ⟨⟨t, t1, by rw [← t3]; exact p⟩, rfl⟩
theorem call_lift {fn : Fn} {fa : Sk → R (List OV)} {Q : VK} (h : LiftE K mg W (callF fn fa) σ H Q) : LiftA K mg W fa σ H fun vs H1 => SpOf K mg fn vs H1 Q (WE W σ) := by
  obtain ⟨S, R0, q⟩ := h
  refine ⟨S, R0, ?_⟩
  unfold callF callG at q
  cases hf : fa S with
  | stuck => rw [hf] at q; exact q
  | exc y S1 => rw [hf] at q; exact q
  | ok os S1 =>
    rw [hf, R.bind_ok] at q
    intro vs H1 ov R1 F1
    by_cases nd : (slotsOf os).Nodup
    · rw [if_pos nd] at q
      cases ha : argsOf S1 os with
      | none => rw [ha] at q; exact (show False from q).elim
      | some args =>
        rw [ha] at q
        dsimp only at q
        refine ⟨args, (args_rel R1 ov ha nd).1, ?_⟩
        cases hn : fn args with
        | stuck => rw [hn] at q; exact q
        | ok r outs =>
          rw [hn] at q
          dsimp only at q
          cases r with
          | l x => exact (show False from q).elim
          | v x =>
            intro v H' rv fi
            cases hp : putOuts S1 os outs with
            | none => rw [hp] at q; exact (show False from q).elim
            | some S2 =>
              rw [hp] at q
              obtain ⟨R2, F2⟩ := put_ok R1 ov ha nd fi hp
              exact q v H' rv R2 (F1.trans F2)
        | exc e outs =>
          rw [hn] at q
          dsimp only at q
          intro cls d H' er fi
          cases hp : putOuts S1 os outs with
          | none => rw [hp] at q; exact (show False from q).elim
          | some S2 =>
            rw [hp] at q
            obtain ⟨R2, F2⟩ := put_ok R1 ov ha nd fi hp
            exact q cls d H' er R2 (F1.trans F2)
    · rw [if_neg nd] at q; exact (show False from q).elim
theorem call_liftL {fn : Fn} {fa : Sk → R (List OV)} {Q : VK} (h : LiftL K mg W (callLF fn fa) σ H Q) : LiftA K mg W fa σ H fun vs H1 => SpOf K mg fn vs H1 Q (WE W σ) := by
  obtain ⟨S, R0, q⟩ := h
  refine ⟨S, R0, ?_⟩
  unfold callLF callG at q
  cases hf : fa S with
  | stuck => rw [hf] at q; exact q
  | exc y S1 => rw [hf] at q; exact q
  | ok os S1 =>
    rw [hf, R.bind_ok] at q
    intro vs H1 ov R1 F1
    by_cases nd : (slotsOf os).Nodup
    · rw [if_pos nd] at q
      cases ha : argsOf S1 os with
      | none => rw [ha] at q; exact (show False from q).elim
      | some args =>
        rw [ha] at q
        dsimp only at q
        refine ⟨args, (args_rel R1 ov ha nd).1, ?_⟩
        cases hn : fn args with
        | stuck => rw [hn] at q; exact q
        | ok r outs =>
          rw [hn] at q
          dsimp only at q
          cases r with
          | v x => exact (show False from q).elim
          | l x =>
            intro p u H' hu ru hfree fi
            cases hp : putOuts S1 os outs with
            | none => rw [hp] at q; exact (show False from q).elim
            | some S2 =>
              rw [hp] at q
              obtain ⟨R2, F2⟩ := put_ok R1 ov ha nd fi hp
              refine q p u H' hu ru (fun w => ?_) (fun o ho => ?_) R2 (F1.trans F2)
              · obtain ⟨h1, h2, h3⟩ := put_slots (K := K) (H := H1) (H' := H') vs hp ov fun i j y a b => by
                  have li : i < args.length := by rw [← (args_len ov ha).2]; exact (List.getElem?_eq_some_iff.mp a).1
                  obtain ⟨o, v, g1, g2, g3, g4⟩ := args_get ov ha i _ (List.getElem?_eq_getElem li)
                  rw [a] at g1
                  cases g1
                  obtain ⟨x, q1, q2⟩ := Option.map_eq_some_iff.mp (show (getO S1 j).map Sl.io = some args[i] from g4)
                  exact fi.out i x y (by rw [List.getElem?_eq_getElem li, ← q2]) b
                obtain ⟨i, s, w1, w2, w3⟩ := w
                obtain ⟨t, t1, t2, t3, t4⟩ := h2 i s w1
                exact R1.notFree hfree ⟨i, t, t1, by rw [← t2]; exact w2, w3⟩
              · by_cases hw : Owns S σ p
                · exact hw
                · have := (F1.keep p o ho hw).1
                  rw [hfree] at this; cases this
        | exc e outs =>
          rw [hn] at q
          dsimp only at q
          intro cls d H' er fi
          cases hp : putOuts S1 os outs with
          | none => rw [hp] at q; exact (show False from q).elim
          | some S2 =>
            rw [hp] at q
            obtain ⟨R2, F2⟩ := put_ok R1 ov ha nd fi hp
            exact q cls d H' er R2 (F1.trans F2)
    · rw [if_neg nd] at q; exact (show False from q).elim
variable {CX : CXT} {k : Nat} {f : Addr} {fd : FuncData} {ps : List Str} {fn : Fn} {fa : Sk → R (List OV)} {x : Str} {p pos : Pos} {e : Expr} {es : List Expr}
theorem ev_call (Fo : FnOk X.prog X.w X.K X.mg X.base CX k f fd ps (SpOf X.K X.mg fn)) (hr : Room k X.A) (hg : Gl X x) (hm : X.mg x = some (.ref f)) (hk : PySem.W.keepIn X.K (.ref f) = true) (hb : Binds X.K fd ps []) (hx : ∀ σ, PassesAt CX X σ (WE W σ))
    (ha : EA X W (e :: es) fa) (hdb : (x == ("__debug__" : Str)) = false) (he : starEach (e :: es) X.env = (false, eval e X.env) :: starEach es X.env) (hpl : (backTo pos (starEach es X.env)).any (·.1) = false) :
    EV X W (.Call (.Name x p) (e :: es) [] pos) (callF fn fa) := ⟨PE.imp (pe_callS Fo hr hg hm hk hb hx ha.pa hdb he hpl) fun σ H Q h => call_lift h⟩
theorem el_call (Fo : FnOk X.prog X.w X.K X.mg X.base CX k f fd ps (SpOf X.K X.mg fn)) (hr : Room k X.A) (hg : Gl X x) (hm : X.mg x = some (.ref f)) (hk : PySem.W.keepIn X.K (.ref f) = true) (hb : Binds X.K fd ps []) (hx : ∀ σ, PassesAt CX X σ (WE W σ))
    (ha : EA X W (e :: es) fa) (hdb : (x == ("__debug__" : Str)) = false) (he : starEach (e :: es) X.env = (false, eval e X.env) :: starEach es X.env) (hpl : (backTo pos (starEach es X.env)).any (·.1) = false) :
    EL X W (.Call (.Name x p) (e :: es) [] pos) (callLF fn fa) := ⟨PE.imp (pe_callS Fo hr hg hm hk hb hx ha.pa hdb he hpl) fun σ H Q h => call_liftL h⟩
/-- a variable as an operand, of whatever kind -/
def opx (j : Nat) : Sk → R OV := fun S => match S[j]? with
  | some (.val x) => .ok (.v x) S
  | some (.own _) => .ok (.s j) S
  | some (.io _) => .ok (.s j) S
  | _ => .stuck
theorem eo_var {j : Nat} {e : Expr} (h : PE X e (tVar j)) : EO X W e (opx j) := by
  refine ⟨PE.imp h fun σ H Q ⟨S, R, q⟩ => ?_⟩
  unfold opx at q
  split at q
  · rename_i x hx
    obtain ⟨v, h1, h2⟩ := R.atVal hx
    exact ⟨v, h1, q v H h2 R .refl⟩
  · rename_i x hx
    obtain ⟨a, u, h1, h2, h3⟩ := R.atOwn hx
    exact ⟨_, h1, q _ H h1 R .refl⟩
  · rename_i x hx
    obtain ⟨a, u, h1, h2, h3⟩ := R.atIo hx
    exact ⟨_, h1, q _ H h1 R .refl⟩
  · exact (show False from q).elim
end
end VL

set_option Elab.async false
set_option linter.all false
set_option autoImplicit false
set_option maxRecDepth 100000
set_option maxHeartbeats 4000000
/-! VZ: list(zip(x, y)). -/
namespace VZ
open PySem PySem.Spec PyProof.Rows
abbrev ZipH (h : Heap) (z TI TO a : Addr) (f : Bool) : Prop := h.get? z = some { cls := .type "zip", dict := none, data := .fields #[rawInt a, .bool f, .bool false, .ref TI, .ref TO], slots := #[] }
section
variable {prog : Program} {w : World} {A : Around} {E : Value → Shared → Prop} {s : Shared} {z TI TO i1 i2 a : Addr} {f : Bool} {oa : Obj} {fp1 fp2 : List Addr} {n1 n2 i : Nat} {P1 P2 : Nat → Value → Prop} {St1 St2 : Nat → Heap → Prop}
theorem zh_item {Q : Value → Shared → Prop} (S : ZipSep2 z TI TO i1 i2 fp1 fp2) (D1 : Draws prog w A i1 fp1 n1 P1 St1) (D2 : Draws prog w A i2 fp2 n2 P2 St2)
    (hz : ZipH s.heap z TI TO a f) (ha : s.heap.get? a = some oa) (hTI : IsTupOf2 s.heap TI (.ref i1) (.ref i2)) (st1 : St1 i s.heap) (st2 : St2 i s.heap) (l1 : i < n1) (l2 : i < n2)
    (hQ : ∀ x1 x2 h' tk, P1 i x1 → P2 i x2 → ZipH h' z TI TO a true → St1 (i + 1) h' → St2 (i + 1) h' → IsTupOf2 h' s.heap.objs.size x1 x2 → h'.objs.size = s.heap.objs.size + 1 →
      (∀ c o, c ≠ z → c ≠ i1 → c ≠ i2 → s.heap.get? c = some o → h'.get? c = some o) → Q (.ref s.heap.objs.size) { s with heap := h', toks := tk }) :
    wpAny (model prog w) A (Builtin.«zip.__next__» ⟨[.ref z], []⟩) (fun fin s' => ∃ v, fin = .done (.ret v) ∧ Q v s') E s := by
  obtain ⟨hp, g, d, tk0, os⟩ := s
  show wpAny _ _ (field (.ref z) 2 >>= _) _ _ _
  refine wpAny_bind (wpAny_field hz rfl (x := .bool false) rfl ?_)
  show wpAny _ _ (field (.ref z) 3 >>= _) _ _ _
  refine wpAny_bind (wpAny_field hz rfl (x := .ref TI) rfl ?_)
  refine wpAny_bind (wpAny_seqItems hTI rfl ?_)
  show wpAny _ _ (Builtin.SmallTypes.ownedTupleIsFree (.ref z) >>= _) _ _ _
  refine wpAny_bind ?_
  unfold Builtin.SmallTypes.ownedTupleIsFree
  refine wpAny_bind (wpAny_field hz rfl (x := rawInt a) rfl ?_)
  show wpAny _ _ (loadIfAlive ((a : Int).toNat) >>= _) _ _ _
  rw [Int.toNat_natCast]
  refine wpAny_bind (PySem.W.kdx_alive ha ?_)
  simp only [Option.isNone_some, Bool.false_eq_true, if_false]
  refine wpAny_bind (wpAny_field hz rfl (x := .bool f) rfl ?_)
  have flag : wpAny (model prog w) A (if (Value.bool f != Value.bool true) = true then do
      setField (Value.ref z) 1 (Value.bool true)
      pure false
    else pure false) (fun b s' => b = false ∧ ∃ g0, s' = ⟨g0, g, d, tk0, os⟩ ∧ ZipH g0 z TI TO a true ∧ Heap.SameBut z hp g0) E ⟨hp, g, d, tk0, os⟩ := by
    cases f with
    | true =>
      rw [if_neg (show ¬ ((Value.bool true != Value.bool true) = true) from Bool.false_ne_true)]
      exact wpAny_pure ⟨rfl, hp, rfl, hz, Heap.SameBut.refl _ _⟩
    | false =>
      rw [if_pos (show (Value.bool false != Value.bool true) = true from rfl)]
      refine wpAny_bind (wpAny_setField_rec hz (by simp) fun h3 he3 hs3 => wpAny_pure ⟨rfl, h3, rfl, he3, hs3⟩)
  refine wpAny_mono flag (fun b s' hb => ?_) fun _ _ x => x
  obtain ⟨rfl, g0, rfl, hz0, hs0⟩ := hb
  rw [if_neg Bool.false_ne_true]
  simp only [Array.forIn_toList, List.forIn_cons, List.forIn_nil, ← Array.forIn_toList]
  refine wpAny_bind (wpAny_bind (wpAny_bind (wpAny_holding ?_)))
  show wpAny _ _ (Builtin.SmallTypes.nextOf (.ref i1) >>= _) _ _ ⟨g0, g, d, tk0, os⟩
  refine wpAny_bind (D1.item i _ _ _ l1 (D1.over st1 hs0 S.zf1) fun x1 p1 tk1 hx1 sn1 hp1 => wpAny_pure (wpAny_pure ?_))
  replace hp1 : Heap.SameBut i1 g0 p1 := hp1
  refine wpAny_bind (wpAny_bind (wpAny_holding ?_))
  show wpAny _ _ (Builtin.SmallTypes.nextOf (.ref i2) >>= _) _ _ ⟨p1, g, d, tk1, os⟩
  refine wpAny_bind (D2.item i _ _ _ l2 (D2.over (D2.over st2 hs0 S.zf2) hp1 S.sep1_2) fun x2 p2 tk2 hx2 sn2 hp2 => wpAny_pure (wpAny_pure (wpAny_pure ?_)))
  replace hp2 : Heap.SameBut i2 p1 p2 := hp2
  refine wpAny_bind (wpAny_newTuple (hsz := by show (2 : Nat) ≤ sizeLine; decide) (wpAny_pure ⟨_, rfl, ?_⟩))
  have hsz : p2.objs.size = hp.objs.size := by rw [hp2.1, hp1.1, hs0.1]
  have kk : ∀ c o, c ≠ z → c ≠ i1 → c ≠ i2 → hp.get? c = some o → p2.get? c = some o := fun c o cz c1 c2 e => hp2.extBut _ _ c2 (hp1.extBut _ _ c1 (hs0.extBut _ _ cz e))
  have up : ∀ c o, p2.get? c = some o → (p2.push { cls := .type "tuple", data := .seq #[x1, x2] }).get? c = some o := fun c o e => Heap.get?_push_of_some _ e
  show Q (.ref p2.objs.size) ⟨p2.push { cls := .type "tuple", data := .seq #[x1, x2] }, g, d, tk2, os⟩
  rw [hsz]
  refine hQ x1 x2 _ tk2 hx1 hx2 (up _ _ (hp2.extBut _ _ S.zi2 (hp1.extBut _ _ S.zi1 hz0))) (D1.frame _ _ _ (D1.over sn1 hp2 S.sep2_1) fun b _ o e => up b o e) (D2.frame _ _ _ sn2 fun b _ o e => up b o e) ?_ ?_ fun c o cz c1 c2 e => up c o (kk c o cz c1 c2 e)
  · show (p2.push _).get? hp.objs.size = _
    rw [← hsz]
    exact Heap.get?_push_size _ rfl
  · show (p2.push _).objs.size = hp.objs.size + 1
    rw [Heap.size_push, hsz]
/-- it ends -/
theorem zh_end {Q : Fin → Shared → Prop} (S : ZipSep2 z TI TO i1 i2 fp1 fp2) (D1 : Draws prog w A i1 fp1 n1 P1 St1) (D2 : Draws prog w A i2 fp2 n2 P2 St2)
    (hz : ZipH s.heap z TI TO a f) (ha : s.heap.get? a = some oa) (hTI : IsTupOf2 s.heap TI (.ref i1) (.ref i2)) (st1 : St1 i s.heap) (st2 : St2 i s.heap) (l1 : i ≤ n1) (l2 : i ≤ n2) (hend : i = n1 ∨ i = n2)
    (hE : ∀ h' tk e, (∀ c o, c ≠ z → c ≠ i1 → c ≠ i2 → s.heap.get? c = some o → h'.get? c = some o) → (∃ o, h'.get? e = some o ∧ o.cls = .type "StopIteration") → E (.ref e) { s with heap := h', toks := tk }) :
    wpAny (model prog w) A (Builtin.«zip.__next__» ⟨[.ref z], []⟩) Q E s := by
  obtain ⟨hp, g, d, tk0, os⟩ := s
  show wpAny _ _ (field (.ref z) 2 >>= _) _ _ _
  refine wpAny_bind (wpAny_field hz rfl (x := .bool false) rfl ?_)
  show wpAny _ _ (field (.ref z) 3 >>= _) _ _ _
  refine wpAny_bind (wpAny_field hz rfl (x := .ref TI) rfl ?_)
  refine wpAny_bind (wpAny_seqItems hTI rfl ?_)
  show wpAny _ _ (Builtin.SmallTypes.ownedTupleIsFree (.ref z) >>= _) _ _ _
  refine wpAny_bind ?_
  unfold Builtin.SmallTypes.ownedTupleIsFree
  refine wpAny_bind (wpAny_field hz rfl (x := rawInt a) rfl ?_)
  show wpAny _ _ (loadIfAlive ((a : Int).toNat) >>= _) _ _ _
  rw [Int.toNat_natCast]
  refine wpAny_bind (PySem.W.kdx_alive ha ?_)
  simp only [Option.isNone_some, Bool.false_eq_true, if_false]
  refine wpAny_bind (wpAny_field hz rfl (x := .bool f) rfl ?_)
  have flag : wpAny (model prog w) A (if (Value.bool f != Value.bool true) = true then do
      setField (Value.ref z) 1 (Value.bool true)
      pure false
    else pure false) (fun b s' => b = false ∧ ∃ g0, s' = ⟨g0, g, d, tk0, os⟩ ∧ ZipH g0 z TI TO a true ∧ Heap.SameBut z hp g0) E ⟨hp, g, d, tk0, os⟩ := by
    cases f with
    | true =>
      rw [if_neg (show ¬ ((Value.bool true != Value.bool true) = true) from Bool.false_ne_true)]
      exact wpAny_pure ⟨rfl, hp, rfl, hz, Heap.SameBut.refl _ _⟩
    | false =>
      rw [if_pos (show (Value.bool false != Value.bool true) = true from rfl)]
      refine wpAny_bind (wpAny_setField_rec hz (by simp) fun h3 he3 hs3 => wpAny_pure ⟨rfl, h3, rfl, he3, hs3⟩)
  refine wpAny_mono flag (fun b s' hb => ?_) fun _ _ x => x
  obtain ⟨rfl, g0, rfl, hz0, hs0⟩ := hb
  rw [if_neg Bool.false_ne_true]
  simp only [Array.forIn_toList, List.forIn_cons, List.forIn_nil, ← Array.forIn_toList]
  refine wpAny_bind (wpAny_bind (wpAny_bind (wpAny_holding ?_)))
  show wpAny _ _ (Builtin.SmallTypes.nextOf (.ref i1) >>= _) _ _ ⟨g0, g, d, tk0, os⟩
  by_cases hlt : i < n1
  · refine wpAny_bind (D1.item i _ _ _ hlt (D1.over st1 hs0 S.zf1) fun x1 p1 tk1 hx1 sn1 hp1 => wpAny_pure (wpAny_pure ?_))
    replace hp1 : Heap.SameBut i1 g0 p1 := hp1
    have hi2 : i = n2 := by omega
    refine wpAny_bind (wpAny_bind (wpAny_holding ?_))
    show wpAny _ _ (Builtin.SmallTypes.nextOf (.ref i2) >>= _) _ _ ⟨p1, g, d, tk1, os⟩
    refine wpAny_bind (D2.done ⟨p1, g, d, tk1, os⟩ _ _ (by rw [← hi2]; exact D2.over (D2.over st2 hs0 S.zf2) hp1 S.sep1_2) fun q e hq he => ?_)
    replace hq : Heap.ExtBut i2 p1 q := hq
    exact hE q tk1 e (fun c o cz c1 c2 x => hq _ _ c2 (hp1.extBut _ _ c1 (hs0.extBut _ _ cz x))) he
  · have hi1 : i = n1 := by omega
    refine wpAny_bind (D1.done ⟨g0, g, d, tk0, os⟩ _ _ (by rw [← hi1]; exact D1.over st1 hs0 S.zf1) fun q e hq he => ?_)
    replace hq : Heap.ExtBut i1 g0 q := hq
    exact hE q tk0 e (fun c o cz c1 c2 x => hq _ _ c1 (hs0.extBut _ _ cz x)) he
/-- the zip at turn i, the new list at S -/
def ZSt (St1 St2 : Nat → Heap → Prop) (z TI TO i1 i2 S : Addr) (i : Nat) (h : Heap) : Prop := IsTupOf2 h TI (.ref i1) (.ref i2) ∧ St1 i h ∧ St2 i h ∧
  ((IsZip h z TI TO .none ∧ ∃ a1 a2, IsTupOf2 h TO a1 a2) ∨ ∃ a f oa, ZipH h z TI TO a f ∧ h.get? a = some oa ∧ a ≠ z ∧ a ≠ TO ∧ a ≠ i1 ∧ a ≠ i2 ∧ a ≠ S)
structure Apart (S z TI TO : Addr) (fp1 fp2 : List Addr) : Prop where
  z : z ≠ S
  TI : TI ≠ S
  TO : TO ≠ S
  f1 : S ∉ fp1
  f2 : S ∉ fp2
theorem ZSt.keep {S' : Addr} {h h' : Heap} (D1 : Draws prog w A i1 fp1 n1 P1 St1) (D2 : Draws prog w A i2 fp2 n2 P2 St2) (Ap : Apart S' z TI TO fp1 fp2) (st : ZSt St1 St2 z TI TO i1 i2 S' i h) (hk : ∀ b o, b ≠ S' → h.get? b = some o → h'.get? b = some o) : ZSt St1 St2 z TI TO i1 i2 S' i h' := by
  obtain ⟨h1, h2, h3, h4⟩ := st
  refine ⟨hk _ _ Ap.TI h1, D1.frame _ _ _ h2 fun b hb o e => hk b o (fun q => Ap.f1 (q ▸ hb)) e, D2.frame _ _ _ h3 fun b hb o e => hk b o (fun q => Ap.f2 (q ▸ hb)) e, ?_⟩
  rcases h4 with ⟨hz, a1, a2, hT⟩ | ⟨a, f, oa, hz, ha, q1, q2, q3, q4, q5⟩
  · exact .inl ⟨hk _ _ Ap.z hz, a1, a2, hk _ _ Ap.TO hT⟩
  · exact .inr ⟨a, f, oa, hk _ _ Ap.z hz, hk _ _ q5 ha, q1, q2, q3, q4, q5⟩
theorem zz_item {S' : Addr} {Q : Option Value → Shared → Prop} (S : ZipSep2 z TI TO i1 i2 fp1 fp2) (D1 : Draws prog w A.in1 i1 fp1 n1 P1 St1) (D2 : Draws prog w A.in1 i2 fp2 n2 P2 St2)
    (st : ZSt St1 St2 z TI TO i1 i2 S' i s.heap) (hS : S' < s.heap.objs.size) (l1 : i < n1) (l2 : i < n2)
    (hQ : ∀ x1 x2 h' tk, P1 i x1 → P2 i x2 → ZSt St1 St2 z TI TO i1 i2 S' (i + 1) h' → IsTupOf2 h' s.heap.objs.size x1 x2 → h'.objs.size = s.heap.objs.size + 1 →
      (∀ c o, c ≠ z → c ≠ TO → c ≠ i1 → c ≠ i2 → s.heap.get? c = some o → h'.get? c = some o) → Q (some (.ref s.heap.objs.size)) { s with heap := h', toks := tk }) :
    wpAny (model prog w) A (pyNext (.ref z)) Q E s := by
  obtain ⟨hTI, st1, st2, st⟩ := st
  have li1 : i1 < s.heap.objs.size := let ⟨o, e⟩ := D1.live _ _ st1; Heap.lt_size e
  have li2 : i2 < s.heap.objs.size := let ⟨o, e⟩ := D2.live _ _ st2; Heap.lt_size e
  rcases st with ⟨hz, a1, a2, hTO⟩ | ⟨a, f, oa, hz, ha, q1, q2, q3, q4, q5⟩
  · refine wpAny_pyNext_zipD2_item S D1 D2 hz hTI hTO st1 st2 l1 l2 fun x1 x2 h' tk y1 y2 b1 b2 d1 d2 b5 b6 b7 => hQ x1 x2 h' tk y1 y2 ⟨b7 _ _ S.TIz S.TITO S.TIi1 S.TIi2 hTI, d1, d2, .inr ⟨s.heap.objs.size, false, _, b1, b5, ?_, ?_, ?_, ?_, ?_⟩⟩ b5 b6 b7
    · exact Nat.ne_of_gt (Heap.lt_size hz)
    · exact Nat.ne_of_gt (Heap.lt_size hTO)
    · exact Nat.ne_of_gt li1
    · exact Nat.ne_of_gt li2
    · exact Nat.ne_of_gt hS
  · have hT : s.TypeIs (.ref z) "zip" := ⟨_, hz, rfl⟩
    unfold pyNext
    refine wpAny_bind (wpAny_attempt (wpAny_callSpecial?_slot (name := Str.ofString "__next__") hT F.slot_zip_next
      (wpAny_call_entry F.slot_zip_next hT F.entry_zip_next
        (zh_item S D1 D2 hz ha hTI st1 st2 l1 l2 fun x1 x2 h' tk y1 y2 b1 d1 d2 b5 b6 b7 => wpAny_pure ?_) (F.args_zip_next_1 _))))
    exact hQ x1 x2 h' tk y1 y2 ⟨b7 _ _ S.TIz S.TIi1 S.TIi2 hTI, d1, d2, .inr ⟨a, true, oa, b1, b7 _ _ q1 q3 q4 ha, q1, q2, q3, q4, q5⟩⟩ b5 b6 fun c o cz cT c1 c2 e => b7 c o cz c1 c2 e
theorem zz_end {S' : Addr} {Q : Option Value → Shared → Prop} (S : ZipSep2 z TI TO i1 i2 fp1 fp2) (D1 : Draws prog w A.in1 i1 fp1 n1 P1 St1) (D2 : Draws prog w A.in1 i2 fp2 n2 P2 St2)
    (st : ZSt St1 St2 z TI TO i1 i2 S' i s.heap) (l1 : i ≤ n1) (l2 : i ≤ n2) (hend : i = n1 ∨ i = n2)
    (hQ : ∀ h' tk, (∀ c o, c ≠ z → c ≠ TO → c ≠ i1 → c ≠ i2 → s.heap.get? c = some o → h'.get? c = some o) → Q none { s with heap := h', toks := tk }) : wpAny (model prog w) A (pyNext (.ref z)) Q E s := by
  obtain ⟨hTI, st1, st2, st⟩ := st
  rcases st with ⟨hz, a1, a2, hTO⟩ | ⟨a, f, oa, hz, ha, q1, q2, q3, q4, q5⟩
  · exact wpAny_pyNext_zipD2_end S D1 D2 hz hTI hTO st1 st2 l1 l2 hend hQ
  · have hT : s.TypeIs (.ref z) "zip" := ⟨_, hz, rfl⟩
    unfold pyNext
    refine wpAny_bind (wpAny_attempt (wpAny_callSpecial?_slot (name := Str.ofString "__next__") hT F.slot_zip_next
      (wpAny_call_entry F.slot_zip_next hT F.entry_zip_next (zh_end S D1 D2 hz ha hTI st1 st2 l1 l2 hend fun h' tk e hk he => ?_) (F.args_zip_next_1 _))))
    obtain ⟨o, ho, hc⟩ := he
    refine wpAny_bind (wpAny_isInstance (T := "StopIteration") (b := true) ⟨o, ho, hc⟩ isSubtype_stop ?_)
    exact wpAny_pure (hQ _ _ fun c o cz _ c1 c2 x => hk c o cz c1 c2 x)
/-- the pairs that were made -/
structure ZG (P1 P2 : Nat → Value → Prop) (lo : Addr) (h : Heap) (as : List Addr) : Prop where
  rise : as.Pairwise (· < ·)
  above : ∀ a ∈ as, lo < a
  pairs : ∀ (j : Nat) (a : Addr), as[j]? = some a → ∃ x1 x2, P1 j x1 ∧ P2 j x2 ∧ IsTupOf2 h a x1 x2
theorem ZG.there {lo : Addr} {h : Heap} {as : List Addr} (g : ZG P1 P2 lo h as) {a : Addr} (ha : a ∈ as) : a < h.objs.size := by
  obtain ⟨j, hj⟩ := List.mem_iff_getElem?.mp ha
  obtain ⟨_, _, _, _, e⟩ := g.pairs j a hj
  exact Heap.lt_size e
theorem zz_loop {S' : Addr} {R : Result → Shared → Prop} (S : ZipSep2 z TI TO i1 i2 fp1 fp2) (D1 : Draws prog w A.in1.in1 i1 fp1 n1 P1 St1) (D2 : Draws prog w A.in1.in1 i2 fp2 n2 P2 St2) (Ap : Apart S' z TI TO fp1 fp2) (lz : z < S') (lTO : TO < S') (li1 : i1 < S') (li2 : i2 < S') (hn : min n1 n2 ≤ sizeLine) (res : Value) {h₁ : Heap}
    (hR : ∀ h' tk acc c as, (∀ b o, b ≠ S' → b ≠ z → b ≠ TO → b ≠ i1 → b ≠ i2 → h₁.get? b = some o → h'.get? b = some o) → h'.get? S' = some { cls := .type "list", dict := none, data := .seq acc c, slots := #[] } → as.length = min n1 n2 → ZG P1 P2 S' h' as →
      acc.toList = as.map Value.ref → R (.ok (.ret res)) { s with heap := h', toks := tk }) :
    ∀ (k i : Nat) (h : Heap) (tk c : Nat) (acc : Array Value) (as : List Addr), min n1 n2 - i = k → i ≤ min n1 n2 → ZSt St1 St2 z TI TO i1 i2 S' i h → (∀ b o, b ≠ S' → b ≠ z → b ≠ TO → b ≠ i1 → b ≠ i2 → h₁.get? b = some o → h.get? b = some o) →
      h.get? S' = some { cls := .type "list", dict := none, data := .seq acc c, slots := #[] } → acc.toList = as.map Value.ref → as.length = i → ZG P1 P2 S' h as →
      codeAny (model prog w) A (.builtin "list.extend.loop" ⟨[.ref S', .ref z, res], []⟩) R { s with heap := h, toks := tk } := by
  have nS : ∀ b, S' < b → b ≠ S' ∧ b ≠ z ∧ b ≠ TO ∧ b ≠ i1 ∧ b ≠ i2 := fun b hb => ⟨Nat.ne_of_gt hb, Nat.ne_of_gt (Nat.lt_trans lz hb), Nat.ne_of_gt (Nat.lt_trans lTO hb), Nat.ne_of_gt (Nat.lt_trans li1 hb), Nat.ne_of_gt (Nat.lt_trans li2 hb)⟩
  intro k
  induction k with
  | zero =>
    intro i h tk c acc as hk hi hst hkeep hS hacc hal hG
    have hin : i = min n1 n2 := by omega
    refine codeAny_builtin F.entry_extend_loop ?_
    rw [Around.under_plainId F.plain_extend_loop _]
    show wpAny _ A.in1 (pyNext (.ref z) >>= _) _ _ _
    refine wpAny_bind (zz_end (A := A.in1) (s := { s with heap := h, toks := tk }) S D1 D2 hst (by omega) (by omega) (by omega) fun h' tk' he => ?_)
    refine wpAny_pure (hR h' tk' acc c as (fun b o b1 b2 b3 b4 b5 e => he b o b2 b3 b4 b5 (hkeep b o b1 b2 b3 b4 b5 e)) (he S' _ Ap.z.symm Ap.TO.symm (Nat.ne_of_gt li1) (Nat.ne_of_gt li2) hS) (by omega) ⟨hG.rise, hG.above, fun j a hj => ?_⟩ hacc)
    obtain ⟨x1, x2, e1, e2, e3⟩ := hG.pairs j a hj
    obtain ⟨_, m2, m3, m4, m5⟩ := nS a (hG.above a (List.mem_of_getElem? hj))
    exact ⟨x1, x2, e1, e2, he a _ m2 m3 m4 m5 e3⟩
  | succ k ih =>
    intro i h tk c acc as hk hi hst hkeep hS hacc hal hG
    have hlt : i < min n1 n2 := by omega
    have hsz : acc.size = i := by rw [← Array.length_toList, hacc, List.length_map, hal]
    have hSl : S' < h.objs.size := Heap.lt_size hS
    refine codeAny_builtin F.entry_extend_loop ?_
    rw [Around.under_plainId F.plain_extend_loop _]
    show wpAny _ A.in1 (pyNext (.ref z) >>= _) _ _ _
    refine wpAny_bind (zz_item (A := A.in1) (s := { s with heap := h, toks := tk }) S D1 D2 hst hSl (by omega) (by omega) fun x1 x2 h' tk' y1 y2 hst' ht hz hkp => ?_)
    dsimp only at ht hz hkp ⊢
    have hS' := hkp S' _ Ap.z.symm Ap.TO.symm (Nat.ne_of_gt li1) (Nat.ne_of_gt li2) hS
    have up : ∀ b o, b ≠ S' → h'.get? b = some o → (h'.update S' (Obj.mapSeq (·.push (Value.ref h.objs.size)))).get? b = some o := fun b o hb e => (Heap.get?_update_other _ _ (Ne.symm hb)).trans e
    show wpAny _ A.in1 (updateSeq S' (·.push (Value.ref h.objs.size)) >>= _) _ _ _
    refine wpAny_bind ?_
    refine wpAny_updateSeq hS' rfl (wpAny_pure ⟨plainId_quiet F.plain_extend_loop _, ih (i + 1) _ tk' _ (acc.push (Value.ref h.objs.size)) (as ++ [h.objs.size]) (by omega) hlt (hst'.keep D1 D2 Ap up)
      (fun b o b1 b2 b3 b4 b5 e => up b o b1 (hkp b o b2 b3 b4 b5 (hkeep b o b1 b2 b3 b4 b5 e))) (Heap.get?_update_self _ hS' rfl) (by rw [Array.toList_push, hacc, List.map_append]; rfl) (by rw [List.length_append, hal]; rfl) ⟨?_, ?_, ?_⟩⟩) (by rw [hsz]; omega) (by show (acc.push (Value.ref h.objs.size)).size ≤ sizeLine + 1; rw [Array.size_push, hsz]; omega)
    · refine List.pairwise_append.mpr ⟨hG.rise, List.pairwise_singleton _ _, fun a ha b hb => ?_⟩
      rw [List.mem_singleton.mp hb]
      exact hG.there ha
    · intro a ha
      rcases List.mem_append.mp ha with ha | ha
      · exact hG.above a ha
      · rw [List.mem_singleton.mp ha]; exact hSl
    · intro j b hj
      rcases Nat.lt_trichotomy j as.length with h1 | h1 | h1
      · rw [List.getElem?_append_left h1] at hj
        obtain ⟨x1', x2', e1, e2, e3⟩ := hG.pairs j b hj
        obtain ⟨m1, m2, m3, m4, m5⟩ := nS b (hG.above b (List.mem_of_getElem? hj))
        exact ⟨x1', x2', e1, e2, up b _ m1 (hkp b _ m2 m3 m4 m5 e3)⟩
      · subst h1
        have hb : h.objs.size = b := by simpa using hj
        subst hb
        exact ⟨x1, x2, by rw [hal]; exact y1, by rw [hal]; exact y2, up _ _ (Nat.ne_of_gt hSl) ht⟩
      · have hnone : (as ++ [h.objs.size])[j]? = none := List.getElem?_eq_none (by rw [List.length_append, List.length_singleton]; omega)
        rw [hnone] at hj; cases hj
end
theorem nolen_zip : typeLookup (.type "zip") "__len__" = pure none := by rw [typeLookup_type, builtinLookup_eq_fast]; kernel_rfl
theorem nohint_zip : typeLookup (.type "zip") "__length_hint__" = pure none := by rw [typeLookup_type, builtinLookup_eq_fast]; kernel_rfl
section
variable {prog : Program} {w : World} {A : Around} {E : Value → Shared → Prop} {s : Shared} {z TI TO i1 i2 : Addr} {fp1 fp2 : List Addr} {n1 n2 : Nat} {P1 P2 : Nat → Value → Prop} {St1 St2 : Nat → Heap → Prop}
theorem zz_hint (hT : s.TypeIs (.ref z) "zip") {Q : Bool → Shared → Prop} (h : Q true s) : wpAny (model prog w) A (Builtin.List.listLengthHint (.ref z)) Q E s := by
  unfold Builtin.List.listLengthHint
  refine wpAny_bind (wpAny_specialOf hT nolen_zip ?_)
  refine wpAny_ite_split (fun hab => absurd hab (by decide)) (fun _ => ?_)
  refine wpAny_ite_split (fun hab => absurd hab (by decide)) (fun _ => ?_)
  show wpAny _ A (specialOf (Value.ref z) (Str.ofString "__length_hint__") >>= _) _ _ _
  refine wpAny_bind (wpAny_specialOf hT nohint_zip ?_)
  exact wpAny_pure h
theorem zz_extend {R : Result → Shared → Prop} {S' : Addr} (S : ZipSep2 z TI TO i1 i2 fp1 fp2) (D1 : Draws prog w A.in1.in1 i1 fp1 n1 P1 St1) (D2 : Draws prog w A.in1.in1 i2 fp2 n2 P2 St2) (Ap : Apart S' z TI TO fp1 fp2) (lz : z < S') (lTO : TO < S') (li1 : i1 < S') (li2 : i2 < S') (hn : min n1 n2 ≤ sizeLine) (res : Value)
    (hz : IsZip s.heap z TI TO .none) (hTI : IsTupOf2 s.heap TI (.ref i1) (.ref i2)) {a1 a2 : Value} (hTO : IsTupOf2 s.heap TO a1 a2) (st1 : St1 0 s.heap) (st2 : St2 0 s.heap) (c₀ : Nat) (hS : s.heap.get? S' = some { cls := .type "list", data := .seq #[] c₀ })
    (hR : ∀ h' tk acc c as, (∀ b o, b ≠ S' → b ≠ z → b ≠ TO → b ≠ i1 → b ≠ i2 → s.heap.get? b = some o → h'.get? b = some o) → h'.get? S' = some { cls := .type "list", dict := none, data := .seq acc c, slots := #[] } → as.length = min n1 n2 → ZG P1 P2 S' h' as →
      acc.toList = as.map Value.ref → R (.ok (.ret res)) { s with heap := h', toks := tk }) :
    wpAny (model prog w) A.in1 (Builtin.List.listExtendWith (.ref S') (.ref z) res)
      (fun fin s' => match fin with | .done f => R (.ok f) s' | .again c' => c'.quiet = true ∧ codeAny (model prog w) A c' R s') (fun e s' => R (.error e) s') s := by
  have st0 : ZSt St1 St2 z TI TO i1 i2 S' 0 s.heap := ⟨hTI, st1, st2, .inl ⟨hz, a1, a2, hTO⟩⟩
  have key : ∀ (h : Heap) (c₁ tk : Nat), (∀ b o, b ≠ S' → s.heap.get? b = some o → h.get? b = some o) → h.get? S' = some { cls := .type "list", data := .seq #[] c₁ } →
      codeAny (model prog w) A (.builtin "list.extend.loop" ⟨[.ref S', .ref z, res], []⟩) R { s with heap := h, toks := tk } := by
    intro h c₁ tk hk hS₁
    exact zz_loop (s := s) (h₁ := s.heap) S D1 D2 Ap lz lTO li1 li2 hn res hR (min n1 n2) 0 h tk c₁ #[] [] (Nat.sub_zero _) (Nat.zero_le _) (st0.keep D1 D2 Ap hk) (fun b o b1 _ _ _ _ e => hk b o b1 e) hS₁ rfl rfl ⟨List.Pairwise.nil, (fun _ ha => nomatch ha), (fun j a hj => by simp at hj)⟩
  have hT : s.TypeIs (.ref z) "zip" := ⟨_, hz, rfl⟩
  unfold Builtin.List.listExtendWith
  refine wpAny_bind (wpAny_typeOf (T := "zip") hT ?_)
  have h1 : Builtin.List.listSameRef (.ref S') (.ref z) = false := by simp [Builtin.List.listSameRef, Ap.z.symm]
  have h2 : (Value.type "zip" == Value.type "list") = false := by decide
  have h3 : (Value.type "zip" == Value.type "tuple") = false := by decide
  simp only [h1, h2, h3, Bool.or_false, Bool.false_eq_true, if_false]
  refine wpAny_bind (wpAny_pyIter_zip hz ?_)
  refine wpAny_bind (wpAny_holding (zz_hint hT ?_))
  refine wpAny_ite_split (fun _ => ?_) (fun hb => absurd rfl hb)
  refine wpAny_bind (wpAny_rule ?_)
  refine wpAny_bind ?_
  show wpAny _ _ (updateSeq S' (·.push .none) >>= fun _ => updateSeq S' (·.pop)) _ _ _
  refine wpAny_bind (wpAny_updateSeq hS rfl ?_)
  have hS₂ := Heap.get?_update_self (Obj.mapSeq (·.push Value.none)) hS rfl
  refine wpAny_updateSeq (hz := by seq_fits) hS₂ rfl ?_
  have hS₃ := Heap.get?_update_self (Obj.mapSeq (·.pop)) hS₂ rfl
  refine wpAny_pure ⟨plainId_quiet F.plain_extend_loop _, key _ _ _ (fun b o hb e => ?_) hS₃⟩
  exact (Heap.get?_update_other _ _ (Ne.symm hb)).trans ((Heap.get?_update_other _ _ (Ne.symm hb)).trans e)
theorem zz_init {R : Result → Shared → Prop} {S' : Addr} (S : ZipSep2 z TI TO i1 i2 fp1 fp2) (D1 : Draws prog w A.in1.in1 i1 fp1 n1 P1 St1) (D2 : Draws prog w A.in1.in1 i2 fp2 n2 P2 St2) (Ap : Apart S' z TI TO fp1 fp2) (lz : z < S') (lTO : TO < S') (li1 : i1 < S') (li2 : i2 < S') (hn : min n1 n2 ≤ sizeLine)
    (hz : IsZip s.heap z TI TO .none) (hTI : IsTupOf2 s.heap TI (.ref i1) (.ref i2)) {a1 a2 : Value} (hTO : IsTupOf2 s.heap TO a1 a2) (st1 : St1 0 s.heap) (st2 : St2 0 s.heap) (hS : s.heap.get? S' = some { cls := .type "list", data := .seq #[] })
    (hR : ∀ h' tk acc c as, (∀ b o, b ≠ S' → b ≠ z → b ≠ TO → b ≠ i1 → b ≠ i2 → s.heap.get? b = some o → h'.get? b = some o) → h'.get? S' = some { cls := .type "list", dict := none, data := .seq acc c, slots := #[] } → as.length = min n1 n2 → ZG P1 P2 S' h' as →
      acc.toList = as.map Value.ref → R (.ok (.ret .none)) { s with heap := h', toks := tk }) :
    wpAny (model prog w) A.in1 (Builtin.«list.__init__» ⟨[.ref S', .ref z], []⟩)
      (fun fin s' => match fin with | .done f => R (.ok f) s' | .again c' => c'.quiet = true ∧ codeAny (model prog w) A c' R s') (fun e s' => R (.error e) s') s := by
  show wpAny _ _ (do let old ← Builtin.List.listItems (.ref S'); Builtin.List.listUpdate (.ref S') (fun _ => #[]); letGo old.toList.reverse; Builtin.List.listExtendWith (.ref S') (.ref z) .none) _ _ s
  refine wpAny_bind ?_
  unfold Builtin.List.listItems
  refine wpAny_bind (wpAny_seqItems hS rfl (wpAny_pure ?_))
  show wpAny _ _ (updateSeq S' (fun _ => #[]) >>= fun _ => letGo (#[] : Array Value).toList.reverse >>= fun _ => Builtin.List.listExtendWith (.ref S') (.ref z) .none) _ _ s
  refine wpAny_bind (wpAny_updateSeq hS rfl ?_)
  have hS₂ := Heap.get?_update_self (Obj.mapSeq (fun _ => (#[] : Array Value))) hS rfl
  have oth : ∀ b o, b ≠ S' → s.heap.get? b = some o → (s.heap.update S' (Obj.mapSeq (fun _ => (#[] : Array Value)))).get? b = some o :=
    fun b o hb e => (Heap.get?_update_other _ _ (Ne.symm hb)).trans e
  refine wpAny_bind (wpAny_letGo ?_)
  refine zz_extend S D1 D2 Ap lz lTO li1 li2 hn .none (oth _ _ Ap.z hz) (oth _ _ Ap.TI hTI) (oth _ _ Ap.TO hTO) (D1.frame _ _ _ st1 fun b hb o e => oth b o (fun q => Ap.f1 (q ▸ hb)) e) (D2.frame _ _ _ st2 fun b hb o e => oth b o (fun q => Ap.f2 (q ▸ hb)) e) _ hS₂ fun h' tk acc c as hk hS' hl hG hacc => ?_
  exact hR h' tk acc c as (fun b o b1 b2 b3 b4 b5 e => hk b o b1 b2 b3 b4 b5 (oth b o b1 e)) hS' hl hG hacc
/-- list(z), z a zip just made -/
theorem zz_call {Q : Value → Shared → Prop} (S : ZipSep2 z TI TO i1 i2 fp1 fp2) (D1 : Draws prog w A.in1.in1.in1 i1 fp1 n1 P1 St1) (D2 : Draws prog w A.in1.in1.in1 i2 fp2 n2 P2 St2) (hf1 : ∀ b ∈ fp1, b < s.heap.objs.size) (hf2 : ∀ b ∈ fp2, b < s.heap.objs.size) (hn : min n1 n2 ≤ sizeLine)
    (hz : IsZip s.heap z TI TO .none) (hTI : IsTupOf2 s.heap TI (.ref i1) (.ref i2)) {a1 a2 : Value} (hTO : IsTupOf2 s.heap TO a1 a2) (st1 : St1 0 s.heap) (st2 : St2 0 s.heap)
    (hQ : ∀ h' tk acc c as, (∀ b o, b ≠ z → b ≠ TO → b ≠ i1 → b ≠ i2 → s.heap.get? b = some o → h'.get? b = some o) → h'.get? s.heap.objs.size = some { cls := .type "list", dict := none, data := .seq acc c, slots := #[] } → as.length = min n1 n2 → ZG P1 P2 s.heap.objs.size h' as →
      acc.toList = as.map Value.ref → Q (.ref s.heap.objs.size) { s with heap := h', toks := tk }) :
    wpAny (model prog w) A (call (.type "list") [.ref z]) Q E s := by
  refine callType_codes (Q₁ := fun obj s₁ => obj = .ref s.heap.objs.size ∧ s₁ = { s with heap := s.heap.push { cls := .type "list", data := .seq #[] } }) F.called_list (F.typeCall_list_1 _) F.entry_list_init
    (code_list_new _ ⟨rfl, rfl⟩) fun obj s₁ h₁ => ?_
  obtain ⟨rfl, rfl⟩ := h₁
  have hS : (s.heap.push { cls := .type "list", data := .seq #[] }).get? s.heap.objs.size = some { cls := .type "list", data := .seq #[] } := Heap.get?_push_size _ rfl
  have k : ∀ b o, s.heap.get? b = some o → (s.heap.push { cls := .type "list", data := .seq #[] }).get? b = some o := fun b o e => Heap.get?_push_of_some _ e
  have lz := Heap.lt_size hz
  have lTO := Heap.lt_size hTO
  have li1 : i1 < s.heap.objs.size := let ⟨o, e⟩ := D1.live _ _ st1; Heap.lt_size e
  have li2 : i2 < s.heap.objs.size := let ⟨o, e⟩ := D2.live _ _ st2; Heap.lt_size e
  refine ⟨⟨_, hS, rfl⟩, F.args_list_init_2 _ _, zz_init (A := A.in1) S D1 D2 ⟨Nat.ne_of_lt lz, Nat.ne_of_lt (Heap.lt_size hTI), Nat.ne_of_lt lTO, fun z => Nat.lt_irrefl _ (hf1 _ z), fun z => Nat.lt_irrefl _ (hf2 _ z)⟩ lz lTO li1 li2 hn (k _ _ hz) (k _ _ hTI) (k _ _ hTO) (D1.frame _ _ _ st1 fun b _ o e => k b o e) (D2.frame _ _ _ st2 fun b _ o e => k b o e) hS fun h' tk acc c as hk hS' hl hG hacc => ?_⟩
  exact ⟨rfl, hQ h' tk acc c as (fun b o b2 b3 b4 b5 e => hk b o (Nat.ne_of_lt (Heap.lt_size e)) b2 b3 b4 b5 (k b o e)) hS' hl hG hacc⟩
end
end VZ

set_option Elab.async false
set_option linter.all false
set_option autoImplicit false
set_option maxRecDepth 100000
set_option maxHeartbeats 4000000
/-! VY: list(zip(x, y)) over the layer; calls with keywords; the script's law. -/
namespace VL
open PySem L2
open PyProof.Rows (boot_list args_cons args_nil callWith_type1 Call_ boot_zip)

section
variable {X : Cx} {W : WX} {K : PySem.W.Frag} {mg : Str → Option Value} {S S0 S1 S2 S' : Sk} {σ σ1 σ' : St} {H H0 H1 H' : Hp}
/-- what a zip walks -/
def Src (h : Heap) (u : Value) (vs : List V) : Prop := ∃ (o : Obj) (Hp' : Heap → Prop) (a : Addr) (its : Array Value), u = .ref a ∧ Vals vs its.toList ∧ a < h.objs.size ∧ Begins u o Hp' ∧ Hp' h ∧
  ∀ (prog : Program) (w : World) (A : Around) (it : Addr), A.handled = none → a ≠ it → ∃ St, Draws prog w A it [it, a] its.size (fun i v => its[i]? = some v) St ∧ ∀ h', Hp' h' → h'.get? it = some o → St 0 h'
theorem src_of {pins : List (Addr × Obj)} {s : Shared} {a : Addr} {vs : List V} (I : Inv X pins σ H s) (h : SqL X.K H a vs ∨ SqT X.K H a vs) : Src s.heap (.ref a) vs ∧ vs.length ≤ sizeLine := by
  rcases h with h | h
  · obtain ⟨its, rv, p, hz⟩ := I.list h
    obtain ⟨ol, hol, x⟩ := p.isList
    exact ⟨⟨_, _, a, its.toArray, rfl, by simpa using rv, Heap.lt_size hol, begins_list a its.toArray, p.isList, fun prog w A it hh ne => ⟨_, Draws.list hh it a ne its.toArray, fun h' q e => ⟨⟨_, e, rfl, rfl⟩, q⟩⟩⟩, hz⟩
  · obtain ⟨its, rv, p, hz⟩ := I.tuple h
    obtain ⟨ol, hol, x⟩ := (show s.heap.IsTuple a its.toArray from p)
    exact ⟨⟨_, _, a, its.toArray, rfl, by simpa using rv, Heap.lt_size hol, begins_tuple a its.toArray, p, fun prog w A it hh ne => ⟨_, Draws.tuple hh it a ne its.toArray, fun h' q e => ⟨⟨_, e, rfl, rfl⟩, q⟩⟩⟩, hz⟩
def putZ : Hp → List Addr → List (V × V) → Hp
  | H, a :: as, p :: ps => putZ (upd H a (.tup [p.1, p.2])) as ps
  | H, _, _ => H
theorem putZ_off {b : Addr} : ∀ (as : List Addr) (ps : List (V × V)) (H : Hp), b ∉ as → putZ H as ps b = H b
  | [], _, _, _ => rfl
  | _ :: _, [], _, _ => rfl
  | a :: as, p :: ps, H, h => by
    show putZ (upd H a (.tup [p.1, p.2])) as ps b = H b
    rw [putZ_off as ps _ (fun z => h (List.mem_cons_of_mem _ z)), upd_ne (fun z => h (by rw [z]; exact List.mem_cons_self))]
theorem putZ_at : ∀ (as : List Addr) (ps : List (V × V)) (H : Hp), as.length = ps.length → as.Nodup → ∀ (j : Nat) (a : Addr), as[j]? = some a → ∃ p, ps[j]? = some p ∧ putZ H as ps a = some (.tup [p.1, p.2])
  | [], [], _, _, _, j, a, h => by simp at h
  | [], _ :: _, _, h, _, _, _, _ => by cases h
  | _ :: _, [], _, h, _, _, _, _ => by cases h
  | a :: as, p :: ps, H, h, hn, j, b, hj => by
    have hn' := List.nodup_cons.mp hn
    cases j with
    | zero =>
      cases hj
      refine ⟨p, rfl, ?_⟩
      show putZ (upd H a (.tup [p.1, p.2])) as ps a = some (.tup [p.1, p.2])
      rw [putZ_off as ps _ hn'.1, upd_same]
    | succ j =>
      obtain ⟨q, h1, h2⟩ := putZ_at as ps (upd H a (.tup [p.1, p.2])) (Nat.succ.inj h) hn'.2 j b (by simpa using hj)
      exact ⟨q, by simpa using h1, h2⟩
def rListZip (K : PySem.W.Frag) : List V → Hp → VK → Prop := fun vs H Q => ∃ (a b : Addr) (xs ys : List V), vs = [.ref a, .ref b] ∧ (SqL K H a xs ∨ SqT K H a xs) ∧ (SqL K H b ys ∨ SqT K H b ys) ∧
  ∀ (H' : Hp) (p : Addr) (as : List Addr), Same H H' → H p = none → H' p = some (.lst (as.map V.ref)) → as.length = (xs.zip ys).length → (∀ (j : Nat) (a : Addr), as[j]? = some a → ∃ q, (xs.zip ys)[j]? = some q ∧ H' a = some (.tup [q.1, q.2])) → Q (.ref p) H'
theorem zip_laid {pins : List (Addr × Obj)} {s : Shared} {h' : Heap} {tk : Nat} {xs ys : List V} {i1 i2 : Array Value} {acc : Array Value} {c : Nat} {as : List Addr} {N : Addr} (I : Inv X pins σ H s) (hN : s.heap.objs.size ≤ N) (hz : xs.length ≤ sizeLine) (r1 : Vals xs i1.toList) (r2 : Vals ys i2.toList)
    (hk : ∀ b o, s.heap.get? b = some o → h'.get? b = some o) (hS : h'.get? N = some { cls := .type "list", dict := none, data := .seq acc c, slots := #[] }) (hl : as.length = min i1.size i2.size) (hG : VZ.ZG (fun i v => i1[i]? = some v) (fun i v => i2[i]? = some v) N h' as) (hacc : acc.toList = as.map Value.ref) :
    ∃ H' : Hp, Same H H' ∧ H N = none ∧ H' N = some (.lst (as.map V.ref)) ∧ as.length = (xs.zip ys).length ∧ (∀ (j : Nat) (a : Addr), as[j]? = some a → ∃ q, (xs.zip ys)[j]? = some q ∧ H' a = some (.tup [q.1, q.2])) ∧ Inv X pins σ H' { s with heap := h', toks := tk } := by
  have l1 : xs.length = i1.size := by rw [r1.length]; simp
  have l2 : ys.length = i2.size := by rw [r2.length]; simp
  have lz : as.length = (xs.zip ys).length := by rw [hl, List.length_zip, l1, l2]
  have hSn : N ∉ as := fun z => Nat.lt_irrefl _ (hG.above _ z)
  have nd : as.Nodup := List.Pairwise.imp (fun {a b} (h : a < b) => Nat.ne_of_lt h) hG.rise
  have new : ∀ t ∈ as, H t = none := fun t ht => I.hok.fresh (Nat.le_trans hN (Nat.le_of_lt (hG.above t ht)))
  have newS : H N = none := I.hok.fresh hN
  have atP := putZ_at as (xs.zip ys) (upd H N (.lst (as.map V.ref))) lz nd
  have off : ∀ b, b ∉ as → b ≠ N → putZ (upd H N (.lst (as.map V.ref))) as (xs.zip ys) b = H b := fun b h1 h2 => by rw [putZ_off as _ _ h1, upd_ne h2]
  have low : ∀ b o, s.heap.get? b = some o → b ∉ as ∧ b ≠ N := fun b o e => by
    have q := Nat.lt_of_lt_of_le (Heap.lt_size e) hN
    exact ⟨fun z => absurd q (Nat.not_lt.mpr (Nat.le_of_lt (hG.above b z))), Nat.ne_of_lt q⟩
  have kp : ∀ b u, H b = some u → (putZ (upd H N (.lst (as.map V.ref))) as (xs.zip ys)) b = some u := fun b u e => by
    rw [off b (fun z => by rw [new b z] at e; cases e) (fun z => by rw [z, newS] at e; cases e)]
    exact e
  have eS : putZ (upd H N (.lst (as.map V.ref))) as (xs.zip ys) N = some (.lst (as.map V.ref)) := by rw [putZ_off as _ _ hSn, upd_same]
  refine ⟨putZ (upd H N (.lst (as.map V.ref))) as (xs.zip ys), kp, newS, eS, lz, atP, ?_⟩
  refine I.call' (ch := []) rfl ⟨fun b o q _ _ _ => hk b o q, fun b o q _ _ _ => ⟨o.slots, hk b o q⟩, fun b o q n _ => ?_, fun b o q _ => ⟨o, hk b o q⟩, fun b xs q => kp b _ q, fun b o u q => kp b _ q, fun b ps q => ⟨#[], by rw [kp b _ q]; simp⟩⟩ (fun b u q => ?_) I.bare fun b z => by simp at z
  · obtain ⟨z1, z2⟩ := low b o q
    rw [off b z1 z2]
    exact n
  · by_cases hb : b ∈ as
    · obtain ⟨j, hj⟩ := List.mem_iff_getElem?.mp hb
      obtain ⟨p, e2, e3⟩ := atP j b hj
      rw [e3] at q
      cases q
      obtain ⟨x1, x2, f1, f2, f3⟩ := hG.pairs j b hj
      obtain ⟨g1, g2⟩ := List.getElem?_zip_eq_some.mp e2
      obtain ⟨u1, k1, k2⟩ := r1.get g1
      obtain ⟨u2, k3, k4⟩ := r2.get g2
      rw [Array.getElem?_toList, f1] at k1
      rw [Array.getElem?_toList, f2] at k3
      cases k1
      cases k3
      exact ⟨by show 2 ≤ sizeLine; decide, [x1, x2], .cons k2 (.cons k4 .nil), ⟨_, f3, rfl, _, rfl⟩⟩
    · by_cases hb2 : b = N
      · rw [hb2] at q ⊢
        rw [eS] at q
        cases q
        refine ⟨by rw [List.length_map, lz, List.length_zip]; omega, acc.toList, c, by rw [hacc]; exact LiI.vals_refs as, ?_⟩
        rw [Array.toArray_toList]
        exact hS
      · rw [off b hb hb2] at q
        exact (I.hok b u q).stay (fun d v _ y => hk d v y) (fun d y => kp d _ y) fun d xs y => kp d _ y
theorem pe_listZip {a b : Expr} {ta : TA} {p p2 pos pos2 : Pos} (hc : X.calm = true) (hg : Gl X "list") (hm : X.mg "list" = none) (hg2 : Gl X "zip") (hm2 : X.mg "zip" = none) (ha : PA X [a, b] ta)
    (hs : starEach [a, b] X.env = (false, eval a X.env) :: starEach [b] X.env) (hpl : (backTo pos2 (starEach [b] X.env)).any (·.1) = false)
    (hs2 : starEach [.Call (.Name "zip" p2) [a, b] [] pos2] X.env = (false, eval (.Call (.Name "zip" p2) [a, b] [] pos2) X.env) :: starEach [] X.env) :
    PE X (.Call (.Name "list" p) [.Call (.Name "zip" p2) [a, b] [] pos2] [] pos) (fun σ H Q => ta σ H fun vs H1 => rListZip X.K vs H1 Q) := by
  refine ⟨fun pins s σ H Q I h => ?_⟩
  refine PyProof.Rows.Call_ (ld_blt I hg hm boot_list (PyProof.Rows.callWith_type1 (args_cons (PyProof.Rows.Call_ (ld_blt I hg2 hm2 PyProof.Rows.boot_zip (PyProof.Rows.callWith_type1 (thn (ha.run pos2 pins s σ H _ I h) fun us s1 ⟨vs, H1, I1, r1, q1⟩ => ?_) hs hpl))) hs2) hs2 rfl))
  obtain ⟨x, y, xs, ys, ex, hx, hy, q⟩ := q1
  subst ex
  cases r1 with
  | cons r rr =>
    cases rr with
    | cons r' rr =>
      cases rr
      cases r
      cases r'
      obtain ⟨⟨o1, P1, a1, t1, e1, v1, lt1, B1, h1, D1⟩, hz1⟩ := src_of I1 hx
      obtain ⟨⟨o2, P2, a2, t2, e2, v2, lt2, B2, h2, D2⟩, hz2⟩ := src_of I1 hy
      cases e1
      cases e2
      refine zip_begins2 B1 B2 h1 h2 fun h' hz hTI hTO g1 g2 hsz hk => args_nil ?_
      obtain ⟨St1, d1, s1'⟩ := D1 X.prog X.w X.A.in1.in1.in1 s1.heap.objs.size (I1.ok.hd hc) (Nat.ne_of_lt lt1)
      obtain ⟨St2, d2, s2'⟩ := D2 X.prog X.w X.A.in1.in1.in1 (s1.heap.objs.size + 1) (I1.ok.hd hc) (Nat.ne_of_lt (Nat.lt_succ_of_lt lt2))
      have sep := zip_sep2 (N := s1.heap.objs.size) (fp1 := [x]) (fp2 := [y]) (fun b hb => by rw [List.mem_singleton.mp hb]; exact lt1) (fun b hb => by rw [List.mem_singleton.mp hb]; exact lt2)
      refine VZ.zz_call (s := { s1 with heap := h' }) sep d1 d2 (fun b hb => ?_) (fun b hb => ?_) ?_ hz hTI hTO (s1' h' (B1.keeps _ _ h1 hk) g1) (s2' h' (B2.keeps _ _ h2 hk) g2) fun h2' tk acc c as hk2 hS hl hG hacc => ?_
      · show b < h'.objs.size
        rw [hsz]
        rcases List.mem_cons.mp hb with e | hb
        · rw [e]; exact Nat.lt_add_of_pos_right (by decide)
        · rw [List.mem_singleton.mp hb]; exact Nat.lt_of_lt_of_le lt1 (Nat.le_add_right _ _)
      · show b < h'.objs.size
        rw [hsz]
        rcases List.mem_cons.mp hb with e | hb
        · rw [e]; exact Nat.add_lt_add_left (by decide) _
        · rw [List.mem_singleton.mp hb]; exact Nat.lt_of_lt_of_le lt2 (Nat.le_add_right _ _)
      · have : xs.length = t1.size := by rw [v1.length]; simp
        omega
      · have kall : ∀ b o, s1.heap.get? b = some o → h2'.get? b = some o := fun b o e => by
          have lb := Heap.lt_size e
          refine hk2 b o ?_ ?_ ?_ ?_ (hk b o e)
          · exact Nat.ne_of_lt (Nat.lt_of_lt_of_le lb (Nat.le_add_right _ _))
          · exact Nat.ne_of_lt (Nat.lt_of_lt_of_le lb (Nat.le_add_right _ _))
          · exact Nat.ne_of_lt lb
          · exact Nat.ne_of_lt (Nat.lt_of_lt_of_le lb (Nat.le_add_right _ _))
        obtain ⟨H', a1', a2', a3, a4, a5, a6⟩ := zip_laid (tk := tk) I1 (show s1.heap.objs.size ≤ h'.objs.size by rw [hsz]; exact Nat.le_add_right _ _) hz1 v1 v2 kall hS hl hG hacc
        exact ⟨.ref h'.objs.size, H', a6, rfl, q H' _ as a1' a2' a3 a4 a5⟩
/-- list(zip(x, y)) -/
def seqP : PV → Option (List PV)
  | .tup xs => some xs
  | .lst xs => some xs
  | _ => none
def sListZip : List PV → Option PV
  | [x, y] => (match seqP x, seqP y with
    | some xs, some ys => some (.lst (zipP xs ys))
    | _, _ => none)
  | _ => none
theorem seqP_sq {v : V} {x : PV} {xs : List PV} (h : RT K H v x) (e : seqP x = some xs) : ∃ a vs, v = .ref a ∧ (SqL K H a vs ∨ SqT K H a vs) ∧ RepA K H vs xs := by
  cases x <;> cases e
  · obtain ⟨a, vs, rfl, h1, r⟩ := h.tup
    exact ⟨a, vs, rfl, .inr (SqT.of h1), r⟩
  · obtain ⟨a, vs, rfl, h1, r⟩ := h.lst
    exact ⟨a, vs, rfl, .inl h1, r⟩
theorem repA_of {vs : List V} {xs : List PV} (hl : vs.length = xs.length) (h : ∀ (j : Nat) (v : V) (x : PV), vs[j]? = some v → xs[j]? = some x → Rep K H v x) : RepA K H vs xs := by
  induction vs generalizing xs with
  | nil => cases xs with
    | nil => exact .nil
    | cons x xs => cases hl
  | cons v vs ih => cases xs with
    | nil => cases hl
    | cons x xs => exact .cons (h 0 v x rfl rfl) (ih (Nat.succ.inj hl) fun j w y a b => h (j + 1) w y (by simpa using a) (by simpa using b))
theorem s_listZip : SemA X OutL (rListZip X.K) sListZip := by
  intro H vs ps z Q h e o
  unfold sListZip at e
  split at e
  · rename_i x y
    obtain ⟨v, w, rfl, h1, h2⟩ := rts2 h
    split at e
    · rename_i xs ys e1 e2
      cases e
      obtain ⟨a, vs, rfl, q1, r1⟩ := seqP_sq h1 e1
      obtain ⟨b, ws, rfl, q2, r2⟩ := seqP_sq h2 e2
      refine ⟨a, b, vs, ws, rfl, q1, q2, fun H' p as sm hp hS hl hat => o p _ H' hp hS (repA_of ?_ fun j v x hv hx => ?_) sm⟩
      · rw [List.length_map, hl, List.length_zip, zipP_length, r1.length, r2.length]
      · rw [List.getElem?_map] at hv
        obtain ⟨a', k1, k2⟩ := Option.map_eq_some_iff.mp hv
        subst k2
        obtain ⟨q, g1, g2⟩ := hat j a' k1
        obtain ⟨g3, g4⟩ := List.getElem?_zip_eq_some.mp g1
        obtain ⟨x', hx', rx⟩ := r1.get g3
        obtain ⟨y', hy', ry⟩ := r2.get g4
        have := zipP_get hx' hy'
        rw [hx] at this
        cases this
        have ex := Ext.of_same sm
        exact .tup g2 (.cons (rx.ext ex) (.cons (ry.ext ex) .nil))
    · cases e
  · cases e
theorem el_listZip {a b : Expr} {fa : Sk → R (List OV)} {p p2 pos pos2 : Pos} (hc : X.calm = true) (hg : Gl X "list") (hm : X.mg "list" = none) (hg2 : Gl X "zip") (hm2 : X.mg "zip" = none) (ha : EA X W [a, b] fa)
    (hs : starEach [a, b] X.env = (false, eval a X.env) :: starEach [b] X.env) (hpl : (backTo pos2 (starEach [b] X.env)).any (·.1) = false)
    (hs2 : starEach [.Call (.Name "zip" p2) [a, b] [] pos2] X.env = (false, eval (.Call (.Name "zip" p2) [a, b] [] pos2) X.env) :: starEach [] X.env) :
    EL X W (.Call (.Name "list" p) [.Call (.Name "zip" p2) [a, b] [] pos2] [] pos) (opA sListZip fa) :=
  ⟨PE.imp (pe_listZip hc hg hm hg2 hm2 ha.pa hs hpl hs2) fun _ _ _ h => liftAL s_listZip h⟩
end
end VL

set_option Elab.async false
set_option linter.all false
set_option autoImplicit false
set_option maxRecDepth 100000
set_option maxHeartbeats 4000000
/-! VX: calls with keywords; a law's end. -/
namespace VL
open PySem L2

section
variable {X : Cx} {W : WX} {K : PySem.W.Frag} {mg : Str → Option Value} {S S0 S1 S2 S' : Sk} {σ σ1 σ' : St} {H H0 H1 H' : Hp}
/-- the items at these places -/
def gI {α : Type} (is : List Nat) (l : List α) : List α := is.filterMap fun i => l[i]?
theorem ovs_get : ∀ {os : List OV} {vs : List V}, OVs K σ H os vs → ∀ i : Nat, (os[i]? = none ∧ vs[i]? = none) ∨ ∃ o v, os[i]? = some o ∧ vs[i]? = some v ∧ OVRel K σ H o v
  | [], [], _, i => .inl ⟨by simp, by simp⟩
  | o :: os, v :: vs, h, 0 => .inr ⟨o, v, rfl, rfl, h.1⟩
  | o :: os, v :: vs, h, i + 1 => by
    rcases ovs_get h.2 i with ⟨a, b⟩ | ⟨o', v', a, b, c⟩
    · exact .inl ⟨by simpa using a, by simpa using b⟩
    · exact .inr ⟨o', v', by simpa using a, by simpa using b, c⟩
  | [], _ :: _, h, _ => h.elim
  | _ :: _, [], h, _ => h.elim
theorem ovs_gI {os : List OV} {vs : List V} (h : OVs K σ H os vs) : ∀ is : List Nat, OVs K σ H (gI is os) (gI is vs)
  | [] => trivial
  | i :: is => by
    unfold gI
    rcases ovs_get h i with ⟨a, b⟩ | ⟨o, v, a, b, c⟩
    · rw [List.filterMap_cons_none a, List.filterMap_cons_none b]
      exact ovs_gI h is
    · rw [List.filterMap_cons_some a, List.filterMap_cons_some b]
      exact ⟨c, ovs_gI h is⟩
theorem vals_get : ∀ {vs : List V} {us : List Value}, Vals vs us → ∀ i : Nat, (vs[i]? = none ∧ us[i]? = none) ∨ ∃ v u, vs[i]? = some v ∧ us[i]? = some u ∧ RelV v u
  | _, _, .nil, i => .inl ⟨by simp, by simp⟩
  | _, _, .cons r rs, 0 => .inr ⟨_, _, rfl, rfl, r⟩
  | _, _, .cons r rs, i + 1 => by
    rcases vals_get rs i with ⟨a, b⟩ | ⟨o', v', a, b, c⟩
    · exact .inl ⟨by simpa using a, by simpa using b⟩
    · exact .inr ⟨o', v', by simpa using a, by simpa using b, c⟩
theorem vals_gI {vs : List V} {us : List Value} (h : Vals vs us) : ∀ is : List Nat, Vals (gI is vs) (gI is us)
  | [] => .nil
  | i :: is => by
    unfold gI
    rcases vals_get h i with ⟨a, b⟩ | ⟨o, v, a, b, c⟩
    · rw [List.filterMap_cons_none a, List.filterMap_cons_none b]
      exact vals_gI h is
    · rw [List.filterMap_cons_some a, List.filterMap_cons_some b]
      exact .cons c (vals_gI h is)
theorem ovs_app : ∀ {os ps : List OV} {vs ws : List V}, OVs K σ H os vs → OVs K σ H ps ws → OVs K σ H (os ++ ps) (vs ++ ws)
  | [], _, [], _, _, h => h
  | _ :: _, _, _ :: _, _, h, k => ⟨h.1, ovs_app h.2 k⟩
  | [], _, _ :: _, _, h, _ => h.elim
  | _ :: _, _, [], _, h, _ => h.elim
theorem ovs_len : ∀ {os : List OV} {vs : List V}, OVs K σ H os vs → vs.length = os.length
  | [], [], _ => rfl
  | _ :: _, _ :: _, h => congrArg Nat.succ (ovs_len h.2)
  | [], _ :: _, h => h.elim
  | _ :: _, [], h => h.elim
structure EK (X : Cx) (W : WX) (ks : List Keyword) (f : Sk → R (List OV)) : Prop where
  pk : PK X ks (LiftA X.K X.mg W f)
theorem PK.imp {ks : List Keyword} {t t' : TA} (h : PK X ks t) (i : ∀ σ H Q, t' σ H Q → t σ H Q) : PK X ks t' := ⟨fun pos pins s σ H Q I q => h.run pos pins s σ H Q I (i σ H Q q)⟩
theorem ek_nil : EK X W [] aNil := ⟨PK.imp pk_nil fun σ H Q ⟨S, R0, q⟩ => q [] H trivial R0 .refl⟩
theorem ek_cons {e : Expr} {ks : List Keyword} {nm : Option Str} {kpos : Pos} {a : Sk → R OV} {r : Sk → R (List OV)} (ha : EO X W e a) (hr : EK X W ks r) : EK X W (⟨nm, e, kpos⟩ :: ks) (aCons a r) := by
  refine ⟨PK.imp (pk_cons ha.pe hr.pk) fun σ H Q ⟨S, R0, q⟩ => ⟨S, R0, ?_⟩⟩
  unfold aCons at q
  cases h1 : a S with
  | stuck => rw [h1] at q; exact q
  | exc x S1 => rw [h1] at q; exact q
  | ok o S1 =>
    rw [h1, R.bind_ok] at q
    intro v H1 ov R1 F1
    refine ⟨S1, R1, ?_⟩
    cases h2 : r S1 with
    | stuck => rw [h2] at q; exact q
    | exc x S2 => rw [h2] at q; exact fun c d H2 er R2 F2 => q c d H2 er R2 (F1.trans F2)
    | ok os S2 =>
      rw [h2, R.bind_ok] at q
      exact fun vs H2 ovs R2 F2 => q (v :: vs) H2 ⟨ov.ext (R1.ext F2), ovs⟩ R2 (F1.trans F2)
/-- positional arguments, keywords, then the parameters' order -/
def fka (n m : Nat) (is : List Nat) (fa fk : Sk → R (List OV)) : Sk → R (List OV) := fun S => (fa S).bind fun os S1 => (fk S1).bind fun ks S2 => if os.length = n ∧ ks.length = m then .ok (gI is (os ++ ks)) S2 else .stuck
theorem fka_lift {n m : Nat} {is : List Nat} {fa fk : Sk → R (List OV)} {T : List V → Hp → Prop} (h : LiftA K mg W (fka n m is fa fk) σ H T) : LiftA K mg W fa σ H fun vs H1 => LiftA K mg W fk σ H1 fun zs H2 => vs.length = n ∧ zs.length = m ∧ T (gI is (vs ++ zs)) H2 := by
  obtain ⟨S, R0, q⟩ := h
  refine ⟨S, R0, ?_⟩
  unfold fka at q
  cases h1 : fa S with
  | stuck => rw [h1] at q; exact q
  | exc x S1 => rw [h1] at q; exact q
  | ok os S1 =>
    rw [h1, R.bind_ok] at q
    intro vs H1 ov R1 F1
    refine ⟨S1, R1, ?_⟩
    cases h2 : fk S1 with
    | stuck => rw [h2] at q; exact q
    | exc x S2 => rw [h2] at q; exact fun c d H2 er R2 F2 => q c d H2 er R2 (F1.trans F2)
    | ok ks S2 =>
      rw [h2, R.bind_ok] at q
      intro zs H2 ov2 R2 F2
      by_cases hl : os.length = n ∧ ks.length = m
      · rw [if_pos hl] at q
        have e := R1.ext F2
        exact ⟨(ovs_len ov).trans hl.1, (ovs_len ov2).trans hl.2, q _ H2 (ovs_gI (ovs_app (ov.ext e) ov2) is) R2 (F1.trans F2)⟩
      · rw [if_neg hl] at q; exact (show False from q).elim
theorem kbn_of {x qual : Str} {params : Arguments} {body : List Stmt} {scope : Scope} {kws : List (Str × V)} {f : Addr} {fd : FuncData} {ps : List Str} (F : FunD K x qual params body scope [] kws f fd) (n : Nat) (ks : List Str) (is : List Nat)
    (h : ∀ (kV doc pm : Value) (an : Option Addr) (cdv ct : Value) (us ws : List Value), us.length = n → ws.length = ks.length → bindArgs (PySem.W.fnOf x qual params body scope .none kV doc pm an cdv ct) ⟨us, ks.zip ws⟩ = pure (ps.zip (gI is (us ++ ws)))) :
    KBn K fd ps n ks (fun us ws => gI is (us ++ ws)) (fun vs zs => gI is (vs ++ zs)) := by
  obtain ⟨oc, od, dV, kV, doc, pm, an, cdv, ct, osl, rfl, lk, hcd, hD, hK⟩ := F.ex
  rcases hD with ⟨_, rfl⟩ | ⟨e, _⟩
  · exact ⟨fun s us ws _ l1 l2 => .of_eq (h kV doc pm an cdv ct us ws l1 l2), fun r1 r2 => vals_gI (r1.append r2) is⟩
  · exact absurd rfl e
section
variable {CX : CXT} {k n : Nat} {f : Addr} {fd : FuncData} {ps ks : List Str} {sp : Sp} {E : St → XK} {x : Str} {p pos : Pos} {e : Expr} {es : List Expr} {kws : List Keyword} {t tk : TA} {g : List Value → List Value → List Value} {gV : List V → List V → List V}
def tCallNS (n m : Nat) (sp : Sp) (gV : List V → List V → List V) (E : St → XK) (t tk : TA) : TE := fun σ H Q => t σ H fun vs H1 => tk σ H1 fun zs H2 => vs.length = n ∧ zs.length = m ∧ sp (gV vs zs) H2 Q (E σ)
theorem pe_callNS (F : FnOk X.prog X.w X.K X.mg X.base CX k f fd ps sp) (hr : Room k X.A) (hg : Gl X x) (hm : X.mg x = some (.ref f)) (hk : PySem.W.keepIn X.K (.ref f) = true) (hb : KBn X.K fd ps n ks g gV) (hx : ∀ σ, PassesAt CX X σ (E σ))
    (ha : PA X (e :: es) t) (hkw : PK X kws tk) (hall : (backToKw pos (keywordEach kws X.env)).all (·.1.isSome) = true) (hks : (backToKw pos (keywordEach kws X.env)).filterMap (·.1) = ks)
    (hdb : (x == ("__debug__" : Str)) = false) (he : starEach (e :: es) X.env = (false, eval e X.env) :: starEach es X.env)
    (hpl : ((backTo pos (starEach (e :: es) X.env)).any (·.1) || (backToKw pos (keywordEach kws X.env)).any (·.1.isNone)) = false) :
    PE X (.Call (.Name x p) (e :: es) kws pos) (tCallNS n ks.length sp gV E t tk) := by
  refine ⟨fun pins s σ H Q I h => wpAny_Call_Name_kw (ld_glob I hg hm ?_ hdb)⟩
  refine PySem.W.callWith_KW (h₀ := X.base) I.ok.mod.kin hk hall (thn (ha.run pos pins s σ H _ I h) fun us s1 ⟨vs, H1, I1, r, q⟩ => ?_) hpl he
  refine thn (hkw.run pos pins s1 σ H1 _ I1 q) fun ws s2 ⟨zs, H2, I2, rz, l1, l2, q2⟩ => ⟨I2.kIn, ?_⟩
  rw [hks]
  have r2 := hb.rel r rz
  refine wpAny_call (codeAny_mono (F.run X.A X.stack s2 H2 ⟨us, ks.zip ws⟩ (g us ws) (gV vs zs) Q (E σ) hr I2.env0 (hb.to s2 us ws I2.kIn (r.length.symm.trans l1) (rz.length.symm.trans l2)) r2 q2) fun res s' hq => ?_)
  match res, hq with
  | .error e, hq => exact hx σ pins H2 s2 e s' I2 hq
  | .ok (.ret u), hq => exact I2.after hq
  | .ok .next, hq => exact False.elim hq
  | .ok .brk, hq => exact False.elim hq
  | .ok .cont, hq => exact False.elim hq
variable {fn : Fn} {fa fk : Sk → R (List OV)} {is : List Nat}
theorem ev_callN (Fo : FnOk X.prog X.w X.K X.mg X.base CX k f fd ps (SpOf X.K X.mg fn)) (hr : Room k X.A) (hg : Gl X x) (hm : X.mg x = some (.ref f)) (hk : PySem.W.keepIn X.K (.ref f) = true) (hb : KBn X.K fd ps n ks (fun us ws => gI is (us ++ ws)) (fun vs zs => gI is (vs ++ zs))) (hx : ∀ σ, PassesAt CX X σ (WE W σ))
    (ha : EA X W (e :: es) fa) (hkw : EK X W kws fk) (hall : (backToKw pos (keywordEach kws X.env)).all (·.1.isSome) = true) (hks : (backToKw pos (keywordEach kws X.env)).filterMap (·.1) = ks)
    (hdb : (x == ("__debug__" : Str)) = false) (he : starEach (e :: es) X.env = (false, eval e X.env) :: starEach es X.env)
    (hpl : ((backTo pos (starEach (e :: es) X.env)).any (·.1) || (backToKw pos (keywordEach kws X.env)).any (·.1.isNone)) = false) :
    EV X W (.Call (.Name x p) (e :: es) kws pos) (callF fn (fka n ks.length is fa fk)) := ⟨PE.imp (pe_callNS Fo hr hg hm hk hb hx ha.pa hkw.pk hall hks hdb he hpl) fun σ H Q h => fka_lift (call_lift h)⟩
theorem el_callN (Fo : FnOk X.prog X.w X.K X.mg X.base CX k f fd ps (SpOf X.K X.mg fn)) (hr : Room k X.A) (hg : Gl X x) (hm : X.mg x = some (.ref f)) (hk : PySem.W.keepIn X.K (.ref f) = true) (hb : KBn X.K fd ps n ks (fun us ws => gI is (us ++ ws)) (fun vs zs => gI is (vs ++ zs))) (hx : ∀ σ, PassesAt CX X σ (WE W σ))
    (ha : EA X W (e :: es) fa) (hkw : EK X W kws fk) (hall : (backToKw pos (keywordEach kws X.env)).all (·.1.isSome) = true) (hks : (backToKw pos (keywordEach kws X.env)).filterMap (·.1) = ks)
    (hdb : (x == ("__debug__" : Str)) = false) (he : starEach (e :: es) X.env = (false, eval e X.env) :: starEach es X.env)
    (hpl : ((backTo pos (starEach (e :: es) X.env)).any (·.1) || (backToKw pos (keywordEach kws X.env)).any (·.1.isNone)) = false) :
    EL X W (.Call (.Name x p) (e :: es) kws pos) (callLF fn (fka n ks.length is fa fk)) := ⟨PE.imp (pe_callNS Fo hr hg hm hk hb hx ha.pa hkw.pk hall hks hdb he hpl) fun σ H Q h => fka_lift (call_liftL h)⟩
end
/-- what may be raised in a block: nothing -/
theorem passF (CX : CXT) (hX : ∀ H s e s', CX X.stack H s (fun _ _ _ => False) e s' → False) (σ : St) : PassesAt CX X σ (WE WF σ) := fun _ H s e s' _ c => (hX H s e s' c).elim
theorem passFL (σ : St) : PassesAt (L2.CX X.prog X.w) X σ (WE WF σ) := fun _ _ _ _ _ _ h => by
  obtain ⟨_, _, _, _, _, _, _, _, _, _, _, _, z⟩ := h
  exact z.elim
/-! ### the law -/
theorem script_sp {fn : Fn} {a : Addr} {ns : List Int} {outs : List Sl} (hf : fn [.val (.scr ns)] = .ok (.v (.bl true)) outs) (hO : Only H) (hS : SqL K H a (ns.map V.int)) : SpOf K mg fn [.ref a] H (fun v _ => v = .bl true) fun _ _ _ => False := by
  have fz : FzL K H a (ns.map V.int) := by
    rcases hS with (h | h) | h
    · rcases hO a with n | ⟨o, xs, e⟩
      · rw [n] at h; cases h
      · rw [e] at h; cases h
    · exact .inl h
    · exact .inr h
  refine ⟨[.val (.scr ns)], ⟨rfl, fun i s h => ?_, fun i j s t b h1 h2 o1 o2 => ?_⟩, ?_⟩
  · cases i with
    | zero => cases h; exact ⟨_, rfl, .scr fz⟩
    | succ i => simp at h
  · cases i with
    | zero => cases h1; cases o1
    | succ i => simp at h1
  · rw [hf]
    intro v H' rv _
    cases rv
    rfl
/-- the walk's end: the law's def gives True of every script -/
theorem walk_end {l : PySem.W.OpenLaw} {n k : Nat} {q : Program} {loose : List Str} {XP : (Str → Option Value) → Heap → Prop} {YP : World → Heap → Prop} {d : DefRec} {x : Str} {fn : Fn}
    (hn : l.most = some n) (hn2 : n ≤ sizeLine) (hdf : d.params.defaults = []) (hr : Room k callerA)
    (hf : ∀ ns : List Int, ns.length ≤ n → ∃ outs, fn [.val (.scr ns)] = .ok (.v (.bl true)) outs)
    (F : ∀ (w : World) (mg : Str → Option Value) (fa : Addr) (h : Heap), YP w h → h.Ns mainGlobals mg → mg d.name = some (.ref fa) →
      ∃ (K : PySem.W.Frag) (fd : FuncData), K.In h ∧ (∀ (s : Shared) (u : Value), BindsTo s fd ⟨[u], []⟩ [(x, u)]) ∧
        ∀ base : Heap, K.In base → base.Ns mainGlobals mg → FnOk l.prog w K mg base (L2.CX l.prog w) k fa fd [x] (SpOf K mg fn)) :
    PySem.W.WalkO q loose XP YP l.row.toRowW d [] (fun f vs => PySem.call f vs) := by
  refine Att.attach_call hn hdf fun w s₀ s₁ mg mb fa o pm cd doc a vs ns G Y ho hd hcd hmg hobj hints hlen hg => ?_
  obtain ⟨K, fd, KX, hb, hF⟩ := F w mg fa _ Y G.T.g hmg
  obtain ⟨outs, ho⟩ := hf ns hlen
  exact law_call KX G.T.g G.T.b G.T.builtins G.T.nolimit hg hobj hints (Nat.le_trans hlen hn2) hr hF hb (fun H hO hS => script_sp ho hO hS) fun H e s' z => by
    obtain ⟨_, _, _, _, _, _, _, _, _, _, _, _, z⟩ := z
    exact z
end
end VL

set_option Elab.async false
set_option linter.all false
set_option autoImplicit false
set_option maxRecDepth 100000
set_option maxHeartbeats 4000000
/-! VW: an expression whose value may be a new object. -/
namespace VL
open PySem L2

section
variable {X : Cx} {W : WX} {K : PySem.W.Frag} {mg : Str → Option Value} {S S0 S1 S2 S' : Sk} {σ σ1 σ' : St} {H H0 H1 H' : Hp}
def RV.val : RV → PV
  | .v x => x
  | .l x => x
def PostX (K : PySem.W.Frag) (mg : Str → Option Value) (W : WX) (S : Sk) (σ : St) (H : Hp) (r : R RV) (Q : VK) : Prop := match r with
  | .stuck => False
  | .ok (.v x) S' => ∀ v H', Rep K H' v x → RelS K S' σ H' → Frm S σ H S' σ H' → Q v H'
  | .ok (.l x) S' => ∀ p u H', H' p = some u → RepOb K H' u x → ¬ Owns S' σ p → (∀ o, H p = some o → Owns S σ p) → RelS K S' σ H' → Frm S σ H S' σ H' → Q (.ref p) H'
  | .exc e S' => ∀ cls d H', ExnRep K mg H' cls d e → RelS K S' σ H' → Frm S σ H S' σ H' → W cls d σ H'
def LiftX (K : PySem.W.Frag) (mg : Str → Option Value) (W : WX) (f : Sk → R RV) : TE := fun σ H Q => ∃ S, RelS K S σ H ∧ PostX K mg W S σ H (f S) Q
structure EX (X : Cx) (W : WX) (e : Expr) (f : Sk → R RV) : Prop where
  pe : PE X e (LiftX X.K X.mg W f)
variable {e : Expr} {f : Sk → R PV} {g : Sk → R RV} {pos : Pos}
def xV (f : Sk → R PV) : Sk → R RV := fun S => (f S).bind fun x S1 => .ok (.v x) S1
def xL (f : Sk → R PV) : Sk → R RV := fun S => (f S).bind fun x S1 => .ok (.l x) S1
def fz (g : Sk → R RV) : Sk → R PV := fun S => (g S).bind fun r S1 => .ok r.val S1
def lx (g : Sk → R RV) : Sk → R PV := fun S => (g S).bind fun r S1 => match r with
  | .l x => .ok x S1
  | .v _ => .stuck
theorem ex_v (h : EV X W e f) : EX X W e (xV f) := ⟨PE.imp h.pe fun σ H Q ⟨S, R0, q⟩ => ⟨S, R0, by
  unfold xV at q
  cases hf : f S with
  | stuck => rw [hf] at q; exact q
  | exc y S1 => rw [hf] at q; exact q
  | ok x S1 => rw [hf] at q; exact q⟩⟩
theorem ex_l (h : EL X W e f) : EX X W e (xL f) := ⟨PE.imp h.pe fun σ H Q ⟨S, R0, q⟩ => ⟨S, R0, by
  unfold xL at q
  cases hf : f S with
  | stuck => rw [hf] at q; exact q
  | exc y S1 => rw [hf] at q; exact q
  | ok x S1 => rw [hf] at q; exact q⟩⟩
theorem el_x (h : EX X W e g) : EL X W e (lx g) := ⟨PE.imp h.pe fun σ H Q ⟨S, R0, q⟩ => ⟨S, R0, by
  unfold lx at q
  cases hf : g S with
  | stuck => rw [hf] at q; exact q
  | exc y S1 => rw [hf] at q; exact q
  | ok x S1 =>
    rw [hf] at q
    cases x with
    | v x => exact (show False from q).elim
    | l x => exact q⟩⟩
theorem ev_x (h : EX X W e g) : EV X W e (fz g) := by
  refine ⟨⟨fun pins s σ H Q I ⟨S, R0, q⟩ => ?_⟩⟩
  have hL : LiftX X.K X.mg W g σ H fun v H1 => (∃ x S', g S = .ok (.v x) S' ∧ Rep X.K H1 v x ∧ RelS X.K S' σ H1 ∧ Frm S σ H S' σ H1) ∨ ∃ p u x S', v = .ref p ∧ H1 p = some u ∧ RepOb X.K H1 u x ∧ g S = .ok (.l x) S' ∧ ¬ Owns S' σ p ∧ (∀ o, H p = some o → Owns S σ p) ∧ RelS X.K S' σ H1 ∧ Frm S σ H S' σ H1 := by
    refine ⟨S, R0, ?_⟩
    unfold fz at q
    cases hf : g S with
    | stuck => rw [hf] at q; exact q
    | exc y S1 => rw [hf] at q; exact q
    | ok r S1 =>
      cases r with
      | v x => exact fun v H1 h1 h2 h3 => .inl ⟨x, S1, rfl, h1, h2, h3⟩
      | l x => exact fun p u H1 h1 h2 h3 h4 h5 h6 => .inr ⟨p, u, x, S1, rfl, h1, h2, rfl, h3, h4, h5, h6⟩
  refine thn (h.pe.run pins s σ H _ I hL) fun w s1 ⟨v, H1, I1, rv, hd⟩ => ?_
  unfold fz at q
  rcases hd with ⟨x, S', hf, h1, h2, h3⟩ | ⟨p, u, x, S', ev, hu, ru, hf, hn, hw, R1, F1⟩
  · rw [hf] at q
    exact ⟨v, H1, I1, rv, q v H1 h1 h2 h3⟩
  · subst ev
    obtain ⟨o, I2⟩ := freeze_inv I1 hu ru
    have ex := freeze_ext (o := o) R1 hu ru
    rw [hf] at q
    refine ⟨.ref p, _, I2, rv, q _ _ ((ru.ext ex).frz upd_same) (R1.freeze hu ru hn) ⟨fun a ob ha na => ?_, F1.io⟩⟩
    have z := F1.keep a ob ha na
    refine ⟨?_, z.2⟩
    rw [upd_ne (fun e => ?_)]
    · exact z.1
    · subst e
      exact na (hw ob ha)
/-! ### returns, stores, calls -/
def retX (g : Sk → R RV) : Sk → O := fun S => (g S).toO fun r S1 => .rt r S1
theorem vs_retX (h : EX X W e g) : VS X W (.Return (some e) pos) (retX g) := by
  refine ⟨PS.imp (ps_ret h.pe) fun D σ H ⟨S, R0, q⟩ => ⟨S, R0, ?_⟩⟩
  unfold retX at q
  cases hf : g S with
  | stuck => rw [hf] at q; exact q
  | exc y S1 => rw [hf] at q; exact fun c d H1 er R1 F1 => q c d σ H1 er R1 F1
  | ok r S1 =>
    rw [hf] at q
    cases r with
    | v x => exact fun v H1 rv R1 F1 => q v σ H1 rv R1 F1
    | l x => exact fun p u H1 h1 h2 h3 h4 R1 F1 => q p u σ H1 h1 h2 h3 h4 R1 F1
def callX (fn : Fn) (fa : Sk → R (List OV)) : Sk → R RV := callG fn some fa
theorem call_liftX {fn : Fn} {fa : Sk → R (List OV)} {Q : VK} (h : LiftX K mg W (callX fn fa) σ H Q) : LiftA K mg W fa σ H fun vs H1 => SpOf K mg fn vs H1 Q (WE W σ) := by
  obtain ⟨S, R0, q⟩ := h
  refine ⟨S, R0, ?_⟩
  unfold callX callG at q
  cases hf : fa S with
  | stuck => rw [hf] at q; exact q
  | exc y S1 => rw [hf] at q; exact q
  | ok os S1 =>
    rw [hf, R.bind_ok] at q
    intro vs H1 ov R1 F1
    by_cases nd : (slotsOf os).Nodup
    · rw [if_pos nd] at q
      cases ha : argsOf S1 os with
      | none => rw [ha] at q; exact (show False from q).elim
      | some args =>
        rw [ha] at q
        dsimp only at q
        refine ⟨args, (args_rel R1 ov ha nd).1, ?_⟩
        cases hn : fn args with
        | stuck => rw [hn] at q; exact q
        | ok r outs =>
          rw [hn] at q
          dsimp only at q
          cases r with
          | v x =>
            intro v H' rv fi
            cases hp : putOuts S1 os outs with
            | none => rw [hp] at q; exact (show False from q).elim
            | some S2 =>
              rw [hp] at q
              obtain ⟨R2, F2⟩ := put_ok R1 ov ha nd fi hp
              exact q v H' rv R2 (F1.trans F2)
          | l x =>
            intro p u H' hu ru hfree fi
            cases hp : putOuts S1 os outs with
            | none => rw [hp] at q; exact (show False from q).elim
            | some S2 =>
              rw [hp] at q
              obtain ⟨R2, F2⟩ := put_ok R1 ov ha nd fi hp
              refine q p u H' hu ru (fun w => ?_) (fun o ho => ?_) R2 (F1.trans F2)
              · obtain ⟨h1, h2, h3⟩ := put_slots (K := K) (H := H1) (H' := H') vs hp ov fun i j y a b => by
                  have li : i < args.length := by rw [← (args_len ov ha).2]; exact (List.getElem?_eq_some_iff.mp a).1
                  obtain ⟨o, v, g1, g2, g3, g4⟩ := args_get ov ha i _ (List.getElem?_eq_getElem li)
                  rw [a] at g1
                  cases g1
                  obtain ⟨x, q1, q2⟩ := Option.map_eq_some_iff.mp (show (getO S1 j).map Sl.io = some args[i] from g4)
                  exact fi.out i x y (by rw [List.getElem?_eq_getElem li, ← q2]) b
                obtain ⟨i, s, w1, w2, w3⟩ := w
                obtain ⟨t, t1, t2, t3, t4⟩ := h2 i s w1
                exact R1.notFree hfree ⟨i, t, t1, by rw [← t2]; exact w2, w3⟩
              · by_cases hw : Owns S σ p
                · exact hw
                · have := (F1.keep p o ho hw).1
                  rw [hfree] at this; cases this
        | exc e outs =>
          rw [hn] at q
          dsimp only at q
          intro cls d H' er fi
          cases hp : putOuts S1 os outs with
          | none => rw [hp] at q; exact (show False from q).elim
          | some S2 =>
            rw [hp] at q
            obtain ⟨R2, F2⟩ := put_ok R1 ov ha nd fi hp
            exact q cls d H' er R2 (F1.trans F2)
    · rw [if_neg nd] at q; exact (show False from q).elim
section
variable {CX : CXT} {k n : Nat} {f : Addr} {fd : FuncData} {ps ks : List Str} {x : Str} {p : Pos} {es : List Expr} {kws : List Keyword} {fn : Fn} {fa fk : Sk → R (List OV)} {is : List Nat}
theorem ex_call (Fo : FnOk X.prog X.w X.K X.mg X.base CX k f fd ps (SpOf X.K X.mg fn)) (hr : Room k X.A) (hm : X.mg x = some (.ref f)) (hk : PySem.W.keepIn X.K (.ref f) = true) (hb : Binds X.K fd ps []) (hx : ∀ σ, PassesAt CX X σ (WE W σ))
    (ha : EA X W (e :: es) fa) (hg : Gl X x := by rfl) (hdb : (x == ("__debug__" : Str)) = false := by decide) (he : starEach (e :: es) X.env = (false, eval e X.env) :: starEach es X.env := by rfl) (hpl : (backTo pos (starEach es X.env)).any (·.1) = false := by rfl) :
    EX X W (.Call (.Name x p) (e :: es) [] pos) (callX fn fa) := ⟨PE.imp (pe_callS Fo hr hg hm hk hb hx ha.pa hdb he hpl) fun σ H Q h => call_liftX h⟩
theorem ex_callN (Fo : FnOk X.prog X.w X.K X.mg X.base CX k f fd ps (SpOf X.K X.mg fn)) (hr : Room k X.A) (hm : X.mg x = some (.ref f)) (hk : PySem.W.keepIn X.K (.ref f) = true) (hb : KBn X.K fd ps n ks (fun us ws => gI is (us ++ ws)) (fun vs zs => gI is (vs ++ zs))) (hx : ∀ σ, PassesAt CX X σ (WE W σ))
    (ha : EA X W (e :: es) fa) (hkw : EK X W kws fk) (hg : Gl X x := by rfl) (hall : (backToKw pos (keywordEach kws X.env)).all (·.1.isSome) = true := by rfl) (hks : (backToKw pos (keywordEach kws X.env)).filterMap (·.1) = ks := by rfl)
    (hdb : (x == ("__debug__" : Str)) = false := by decide) (he : starEach (e :: es) X.env = (false, eval e X.env) :: starEach es X.env := by rfl)
    (hpl : ((backTo pos (starEach (e :: es) X.env)).any (·.1) || (backToKw pos (keywordEach kws X.env)).any (·.1.isNone)) = false := by rfl) :
    EX X W (.Call (.Name x p) (e :: es) kws pos) (callX fn (fka n ks.length is fa fk)) := ⟨PE.imp (pe_callNS Fo hr hg hm hk hb hx ha.pa hkw.pk hall hks hdb he hpl) fun σ H Q h => fka_lift (call_liftX h)⟩
end
/-! ### an operator, a slice: a value or a new list -/
def op2X (sem : PV → PV → Option RV) (a b : Sk → R OV) : Sk → R RV := fun S => (a S).bind fun x S1 => (b S1).bind fun y S2 => match look S2 x, look S2 y with
  | some p, some q => (match sem p q with
    | some z => .ok z S2
    | none => .stuck)
  | _, _ => .stuck
def OutX (K : PySem.W.Frag) (H : Hp) (z : RV) (Q : VK) : Prop := match z with
  | .v z => Out K H z Q
  | .l z => OutL K H z Q
def Sem2X (X : Cx) (r : R2) (sem : PV → PV → Option RV) : Prop := ∀ (H : Hp) (x y : V) (p q : PV) (z : RV) (Q : VK), RT X.K H x p → RT X.K H y q → sem p q = some z → OutX X.K H z Q → r x y H Q
theorem post_outX {r : R RV} {z : RV} {Q : VK} {H0 : Hp} (R : RelS K S σ H) (F : Frm S0 σ H0 S σ H) (q : PostX K mg W S0 σ H0 (.ok z S) Q) : OutX K H z Q := by
  cases z with
  | v z => exact post_out (W := W) (mg := mg) (r := .stuck) R F q
  | l z => exact post_outL (W := W) (mg := mg) (r := .stuck) R F q
theorem lift2X {f g : Sk → R OV} {sem : PV → PV → Option RV} {r : R2} (hs : Sem2X X r sem) {Q : VK} (h : LiftX X.K X.mg W (op2X sem f g) σ H Q) :
    LiftO X.K X.mg W f σ H fun x H1 => LiftO X.K X.mg W g σ H1 fun y H2 => r x y H2 Q := by
  obtain ⟨S, R0, q⟩ := h
  refine ⟨S, R0, ?_⟩
  unfold op2X at q
  cases ha : f S with
  | stuck => rw [ha] at q; exact q
  | exc x S1 => rw [ha] at q; exact q
  | ok x S1 =>
    rw [ha, R.bind_ok] at q
    intro v H1 ov R1 F1
    refine ⟨S1, R1, ?_⟩
    cases hb : g S1 with
    | stuck => rw [hb] at q; exact q
    | exc y S2 => rw [hb] at q; exact fun c d H2 er R2 F2 => q c d H2 er R2 (F1.trans F2)
    | ok y S2 =>
      rw [hb, R.bind_ok] at q
      intro u H2 ou R2 F2
      split at q
      · rename_i p q' hp hq
        split at q
        · rename_i z hz
          exact hs H2 v u p q' z Q (look_rt R2 (ov.ext (R1.ext F2)) hp) (look_rt R2 ou hq) hz (post_outX (r := .stuck) R2 (F1.trans F2) q)
        · exact (show False from q).elim
      · exact (show False from q).elim
theorem ex_bin {a b : Expr} {fa fb : Sk → R OV} {op : Operator} {r : R2} {sem : PV → PV → Option RV} (ho : OpR X (binaryOp op) r) (hs : Sem2X X r sem) (ha : EO X W a fa) (hb : EO X W b fb) : EX X W (.BinOp a op b pos) (op2X sem fa fb) :=
  ⟨PE.imp (pe_op ho ha.pe hb.pe) fun _ _ _ h => lift2X hs h⟩
/-- + of whole numbers, texts, tuples, lists -/
def sAddX (p q : PV) : Option RV := match p, q with
  | .lst xs, .lst ys => (sAddL (.lst xs) (.lst ys)).map .l
  | p, q => (sAdd p q).map .v
theorem s_addX : Sem2X X (fun x y H Q => rAddA X x y H Q ∨ rCatL X.K x y H Q) sAddX := by
  intro H x y p q z Q hx hy e o
  unfold sAddX at e
  split at e
  · obtain ⟨w, h1, h2⟩ := Option.map_eq_some_iff.mp e
    subst h2
    exact .inr (s_addL H x y _ _ w Q hx hy h1 o)
  · obtain ⟨w, h1, h2⟩ := Option.map_eq_some_iff.mp e
    subst h2
    exact .inl (s_add H x y p q w Q hx hy h1 o)
theorem op_addX : OpR X (binaryOp .Add) (fun x y H Q => rAddA X x y H Q ∨ rCatL X.K x y H Q) := op_addA.or op_catL
theorem ex_add {a b : Expr} {fa fb : Sk → R OV} (ha : EO X W a fa) (hb : EO X W b fb) : EX X W (.BinOp a .Add b pos) (op2X sAddX fa fb) := ex_bin op_addX s_addX ha hb
/-- a slice -/
def sSlX (p : PV) (lo hi : Option Int) : Option RV := match p with
  | .lst xs => some (.l (.lst (cutP xs lo hi)))
  | p => (sSl p lo hi).map .v
def slX (f : Sk → R OV) (l u : Sk → R (Option Int)) : Sk → R RV := fun S => (f S).bind fun x S1 => (l S1).bind fun lo S2 => (u S2).bind fun hi S3 => match look S3 x with
  | some p => (match sSlX p lo hi with
    | some z => .ok z S3
    | none => .stuck)
  | none => .stuck
theorem ex_slice {lo hi : Option Expr} {fo : Sk → R OV} {fl fh : Sk → R (Option Int)} {p2 : Pos} (ha : EO X W e fo) (hl : EP X W lo fl) (hh : EP X W hi fh) : EX X W (.Subscript e (.Slice lo hi none p2) pos) (slX fo fl fh) := by
  refine ⟨PE.imp (pe_slice ((sl_tupA.or sl_str).or sl_list) ha.pe hl.po hh.po) fun σ H Q ⟨S, R0, q⟩ => ⟨S, R0, ?_⟩⟩
  unfold slX at q
  cases h1 : fo S with
  | stuck => rw [h1] at q; exact q
  | exc y S1 => rw [h1] at q; exact q
  | ok x S1 =>
    rw [h1, R.bind_ok] at q
    intro v H1 ov R1 F1
    refine ⟨S1, R1, ?_⟩
    cases h2 : fl S1 with
    | stuck => rw [h2] at q; exact q
    | exc y S2 => rw [h2] at q; exact fun c d H2 er R2 F2 => q c d H2 er R2 (F1.trans F2)
    | ok l S2 =>
      rw [h2, R.bind_ok] at q
      intro H2 R2 F2
      refine ⟨S2, R2, ?_⟩
      cases h3 : fh S2 with
      | stuck => rw [h3] at q; exact q
      | exc y S3 => rw [h3] at q; exact fun c d H3 er R3 F3 => q c d H3 er R3 ((F1.trans F2).trans F3)
      | ok u S3 =>
        rw [h3, R.bind_ok] at q
        intro H3 R3 F3
        split at q
        · rename_i pv hp
          split at q
          · rename_i z hz
            have rt := look_rt R3 ((ov.ext (R1.ext F2)).ext (R2.ext F3)) hp
            have oo := post_outX (r := .stuck) R3 ((F1.trans F2).trans F3) q
            unfold sSlX at hz
            split at hz
            · cases hz
              exact .inr (s_slL rt rfl oo)
            · obtain ⟨w, k1, k2⟩ := Option.map_eq_some_iff.mp hz
              subst k2
              exact .inl (s_sl rt k1 oo)
          · exact (show False from q).elim
        · exact (show False from q).elim
/-! ### words in short -/
theorem vv (i : Nat) {x : Str} {p : Pos} (hN : X.N[i]? = some x := by rfl) (hv : Vis X.env.scope x := by first | exact Or.inl rfl | exact Or.inr (Or.inl rfl) | exact Or.inr (Or.inr rfl)) (hd : (x == ("__debug__" : Str)) = false := by decide) (hcd : (x == ("__classdict__" : Str)) = false := by decide) : EV X W (.Name x p) (var i) := ev_var (pe_var hN hv hd hcd)
theorem oo (i : Nat) {x : Str} {p : Pos} (hN : X.N[i]? = some x := by rfl) (hv : Vis X.env.scope x := by first | exact Or.inl rfl | exact Or.inr (Or.inl rfl) | exact Or.inr (Or.inr rfl)) (hd : (x == ("__debug__" : Str)) = false := by decide) (hcd : (x == ("__classdict__" : Str)) = false := by decide) : EO X W (.Name x p) (opx i) := eo_var (pe_var hN hv hd hcd)
theorem ss (i : Nat) {x : Str} {p : Pos} (hN : X.N[i]? = some x := by rfl) (hv : Vis X.env.scope x := by first | exact Or.inl rfl | exact Or.inr (Or.inl rfl) | exact Or.inr (Or.inr rfl)) (hd : (x == ("__debug__" : Str)) = false := by decide) (hcd : (x == ("__classdict__" : Str)) = false := by decide) : EV X W (.Name x p) (shareF i) := ev_share (pe_var hN hv hd hcd)
theorem mm (i : Nat) {x : Str} {p : Pos} (hN : X.N[i]? = some x := by rfl) (hv : Vis X.env.scope x := by first | exact Or.inl rfl | exact Or.inr (Or.inl rfl) | exact Or.inr (Or.inr rfl)) (hd : (x == ("__debug__" : Str)) = false := by decide) (hcd : (x == ("__classdict__" : Str)) = false := by decide) : EL X W (.Name x p) (moveF i) := el_move (pe_var hN hv hd hcd)
theorem ea1 {e : Expr} {es : List Expr} {a : Sk → R OV} {r : Sk → R (List OV)} (ha : EO X W e a) (hr : EA X W es r) (hs : starEach (e :: es) X.env = (false, eval e X.env) :: starEach es X.env := by rfl) : EA X W (e :: es) (aCons a r) := ea_cons ha hr hs
theorem cB {idn : String} {r : List V → Hp → VK → Prop} {sem : List PV → Option PV} {x : Str} {p : Pos} {es : List Expr} {fa : Sk → R (List OV)} (hc : CallR X (.builtin idn) r) (hs : SemA X Out r sem) (hm : X.mg x = none) (ha : EA X W (e :: es) fa) (hg : Gl X x := by rfl) (hv : bootBuiltins x = some (.builtin idn) := by decide +kernel) (hn : x ≠ "__name__" := by decide) (hdb : (x == ("__debug__" : Str)) = false := by decide)
    (he : starEach (e :: es) X.env = (false, eval e X.env) :: starEach es X.env := by rfl) (hpl : (backTo pos (starEach es X.env)).any (·.1) = false := by rfl) : EV X W (.Call (.Name x p) (e :: es) [] pos) (opA sem fa) := ev_callB hc hs hg hm hv ha hn hdb he hpl
theorem cT {idn : String} {r : List V → Hp → VK → Prop} {sem : List PV → Option PV} {x : Str} {p : Pos} {es : List Expr} {fa : Sk → R (List OV)} (hc : CallR X (.type idn) r) (hs : SemA X Out r sem) (hm : X.mg x = none) (ha : EA X W (e :: es) fa) (hg : Gl X x := by rfl) (hv : bootBuiltins x = some (.type idn) := by decide +kernel) (hn : x ≠ "__name__" := by decide) (hdb : (x == ("__debug__" : Str)) = false := by decide)
    (he : starEach (e :: es) X.env = (false, eval e X.env) :: starEach es X.env := by rfl) (hpl : (backTo pos (starEach es X.env)).any (·.1) = false := by rfl) : EV X W (.Call (.Name x p) (e :: es) [] pos) (opA sem fa) := ev_callTy hc hs hg hm hv ha hn hdb he hpl
theorem cTL {idn : String} {r : List V → Hp → VK → Prop} {sem : List PV → Option PV} {x : Str} {p : Pos} {es : List Expr} {fa : Sk → R (List OV)} (hc : CallR X (.type idn) r) (hs : SemA X OutL r sem) (hm : X.mg x = none) (ha : EA X W (e :: es) fa) (hg : Gl X x := by rfl) (hv : bootBuiltins x = some (.type idn) := by decide +kernel) (hn : x ≠ "__name__" := by decide) (hdb : (x == ("__debug__" : Str)) = false := by decide)
    (he : starEach (e :: es) X.env = (false, eval e X.env) :: starEach es X.env := by rfl) (hpl : (backTo pos (starEach es X.env)).any (·.1) = false := by rfl) : EL X W (.Call (.Name x p) (e :: es) [] pos) (opA sem fa) := el_callTy hc hs hg hm hv ha hn hdb he hpl
/-- a local of whatever kind, given up where it is ours -/
def moveX (j : Nat) : Sk → R RV := fun S => match S[j]? with
  | some (.own x) => .ok (.l x) (S.set j .no)
  | some (.val x) => .ok (.v x) S
  | _ => .stuck
theorem ex_move {j : Nat} {e : Expr} (h : PE X e (tVar j)) : EX X W e (moveX j) := by
  refine ⟨PE.imp h fun σ H Q ⟨S, R0, q⟩ => ?_⟩
  unfold moveX at q
  split at q
  · rename_i x hx
    obtain ⟨a, u, h1, h2, h3⟩ := R0.atOwn hx
    refine ⟨_, h1, q a u H h2 h3 (fun w => ?_) (fun o _ => ⟨j, _, hx, rfl, h1⟩) (R0.setNo j) .setNo⟩
    obtain ⟨k, s, k1, k2, k3⟩ := w
    rcases get_set k1 with ⟨rfl, rfl⟩ | ⟨ne, k1⟩
    · cases k2
    · exact ne (R0.dj j k _ s a hx k1 rfl k2 h1 k3)
  · rename_i x hx
    obtain ⟨v, h1, h2⟩ := R0.atVal hx
    exact ⟨v, h1, q v H h2 R0 .refl⟩
  · exact (show False from q).elim
theorem mx (i : Nat) {x : Str} {p : Pos} (hN : X.N[i]? = some x := by rfl) (hv : Vis X.env.scope x := by first | exact Or.inl rfl | exact Or.inr (Or.inl rfl) | exact Or.inr (Or.inr rfl)) (hd : (x == ("__debug__" : Str)) = false := by decide) (hcd : (x == ("__classdict__" : Str)) = false := by decide) : EX X W (.Name x p) (moveX i) := ex_move (pe_var hN hv hd hcd)
/-- name = e -/
def setX (g : Sk → R RV) (i : Nat) : Sk → O := fun S => (g S).toO fun r S1 => if unpinned S1 i = true then (match r with
  | .v x => .nx (S1.set i (.val x))
  | .l x => .nx (S1.set i (.own x))) else .stuck
theorem setX_lift {g : Sk → R RV} {i : Nat} {D : Ends} (h : LiftS K mg W (setX g i) D σ H) : LiftX K mg W g σ H fun x H1 => gName i x σ H1 D.nx := by
  obtain ⟨S, R0, q⟩ := h
  refine ⟨S, R0, ?_⟩
  unfold setX at q
  cases hf : g S with
  | stuck => rw [hf] at q; exact q
  | exc y S1 => rw [hf] at q; exact fun c d H1 er R1 F1 => q c d σ H1 er R1 F1
  | ok r S1 =>
    rw [hf, R.toO_ok] at q
    by_cases hu : unpinned S1 i = true
    · rw [if_pos hu] at q
      cases r with
      | v x => exact fun v H1 rv R1 F1 => q _ H1 (R1.setVal rv) (F1.trans .setVal)
      | l x => exact fun p u H1 h1 h2 h3 h4 R1 F1 => q _ H1 (R1.setOwn h1 h2 h3) (F1.setOwn h4)
    · rw [if_neg hu] at q; exact (show False from q).elim
theorem vs_setX {g : Sk → R RV} {i : Nat} {x : Str} {e : Expr} {pos' : Pos} (hN : X.N.Nodup) (he : EX X W e g) (hi : X.N[i]? = some x := by rfl) (hx : Loc X.env.scope x := by first | exact .inl rfl | exact .inr rfl) (hs : swapsWith e (some (.Name x pos')) pos.line X.env = pure false := by rfl) (hf : X.fn x = true ∨ X.env.scope.names.lookup x = some .local := by first | exact .inl rfl | exact .inr rfl) :
    VS X W (.Assign [.Name x pos'] e pos) (setX g i) := ⟨PS.imp (ps_set hN hi hx he.pe hs hf) fun D σ H h => setX_lift h⟩
theorem lx_lift {f : Sk → R PV} {Q : VK} (h : LiftX K mg W (xL f) σ H Q) : LiftL K mg W f σ H Q := by
  obtain ⟨S, R0, q⟩ := h
  refine ⟨S, R0, ?_⟩
  unfold xL at q
  cases hf : f S with
  | stuck => rw [hf] at q; exact q
  | exc y S1 => rw [hf] at q; exact q
  | ok x S1 => rw [hf] at q; exact q
/-- name = [..] on one line -/
theorem vs_setC {tg iter elt : Expr} {ifs : List Expr} {ts : List Nat} {f : Sk → R (List PV × Option Nat)} {g : PV → Sk → Option Sk} {c : Sk → R Bool} {e : Sk → R PV} {scope : Scope} {own : List (Str × Nat)} {i : Nat} {y : Str} {py spos : Pos} (hc : X.calm = true) (hN : X.N.Nodup) (hi : EI X W tg iter f) (ok : BlkOk X.N X.env.scope scope own)
    (hg : ∀ (s : Shared) (H : Hp) (C : Addr) (cl : List (Str × Addr)) (fp : List Addr), EG (X.blk s H scope (compEnvC scope cl C X.env) fp) tg ts g) (ht : ∀ (s : Shared) (H : Hp) (C : Addr) (cl : List (Str × Addr)) (fp : List Addr), ETs (X.blk s H scope (compEnvC scope cl C X.env) fp) WF ifs c)
    (he : ∀ (s : Shared) (H : Hp) (C : Addr) (cl : List (Str × Addr)) (fp : List Addr), EV (X.blk s H scope (compEnvC scope cl C X.env) fp) WF elt e) (hsw : swapsWith (.ListComp elt [⟨tg, iter, ifs, 0⟩] scope pos) (some (.Name y py)) spos.line X.env = pure true) (hts : ∀ i ∈ ts, i ∈ own.map (·.2))
    (hy : X.N[i]? = some y := by rfl) (hyl : X.env.scope.names.lookup y = some .local := by rfl) (hs : ∀ x, foldedSetIterable iter X.env x = pure x := by intro _; rfl) :
    VS X W (.Assign [.Name y py] (.ListComp elt [⟨tg, iter, ifs, 0⟩] scope pos) spos) (setX (xL (compF f g c e (own.map (·.2)))) i) :=
  ⟨PS.imp (ps_setLc (g := LiftG X.K ts g) (tt := LiftT X.K X.mg WF c) (te := LiftE X.K X.mg WF e) hc hN hy hyl hsw hi.pi ok (fun s H C cl fp => (hg s H C cl fp).pg) (fun s H C cl fp => (ht s H C cl fp).pts) (fun s H C cl fp => (he s H C cl fp).pe) hs) fun D σ H h => comp_lift hts (lx_lift (setX_lift h))⟩
theorem comp1 {tg iter elt : Expr} {ifs : List Expr} {ts : List Nat} {f : Sk → R (List PV × Option Nat)} {g : PV → Sk → Option Sk} {c : Sk → R Bool} {e : Sk → R PV} {scope : Scope} {own : List (Str × Nat)} (hc : X.calm = true) (hN : X.N.Nodup) (hi : EI X W tg iter f) (ok : BlkOk X.N X.env.scope scope own)
    (hg : ∀ (s : Shared) (H : Hp) (C : Addr) (cl : List (Str × Addr)) (fp : List Addr), EG (X.blk s H scope (compEnvC scope cl C X.env) fp) tg ts g) (ht : ∀ (s : Shared) (H : Hp) (C : Addr) (cl : List (Str × Addr)) (fp : List Addr), ETs (X.blk s H scope (compEnvC scope cl C X.env) fp) WF ifs c)
    (he : ∀ (s : Shared) (H : Hp) (C : Addr) (cl : List (Str × Addr)) (fp : List Addr), EV (X.blk s H scope (compEnvC scope cl C X.env) fp) WF elt e) (hts : ∀ i ∈ ts, i ∈ own.map (·.2)) (hs : ∀ x, foldedSetIterable iter X.env x = pure x := by intro _; rfl) :
    EL X W (.ListComp elt [⟨tg, iter, ifs, 0⟩] scope pos) (compF f g c e (own.map (·.2))) := el_comp hc hN hi ok hg ht he hts hs
theorem ety {T : String} {x : Str} {p : Pos} (hm : X.mg x = none) (hv : bootBuiltins x = some (.type T) := by decide +kernel) (hg : Gl X x := by rfl) (hn : x ≠ "__name__" := by decide) (hdb : (x == ("__debug__" : Str)) = false := by decide) : PE X (.Name x p) (tC (.ty T)) :=
  ⟨fun pins s σ H Q I h => ld_blt I hg hm hv ⟨.ty T, H, I, rfl, h⟩ hn hdb⟩
theorem isi {T : Ty} {a c : Expr} {fo : Sk → R OV} {x : Str} {p pos : Pos} (hm : X.mg x = none) (ha : EO X W a fo) (hc : PE X c (tC (.ty T.name))) (hg : Gl X x := by rfl) (hv : bootBuiltins x = some (.builtin "isinstance") := by decide +kernel) (hn : x ≠ "__name__" := by decide) (hdb : (x == ("__debug__" : Str)) = false := by decide)
    (h1 : starEach [a, c] X.env = (false, eval a X.env) :: starEach [c] X.env := by rfl) (h2 : starEach [c] X.env = (false, eval c X.env) :: starEach [] X.env := by rfl) (hpl : (backTo pos (starEach [c] X.env)).any (·.1) = false := by rfl) :
    EV X W (.Call (.Name x p) [a, c] [] pos) (isiF T fo) := ev_isi hg hm hv ha hc hn hdb h1 h2 hpl
theorem room80 {k : Nat} {A : Around} (r : Room k A) : A.units + 80 < cLine := by have := r.un; omega
theorem room65 {k : Nat} {A : Around} (r : Room k A) : A.units + 65 < cLine := by have := r.un; omega
theorem egn {i : Nat} {x : Str} {p : Pos} (hN : X.N.Nodup) (hi : X.N[i]? = some x := by rfl) (hx : Loc X.env.scope x := by first | exact .inl rfl | exact .inr rfl) (hf : X.fn x = true ∨ X.env.scope.names.lookup x = some .local := by first | exact .inl rfl | exact .inr rfl) : EG X (.Name x p) [i] (gSet i) := eg_name (pg_name hN hi hx hf)
theorem egs1 {tg : Expr} {ts : List Expr} {us ws : List Nat} {g : PV → Sk → Option Sk} {r : List PV → Sk → Option Sk} (h1 : EG X tg us g) (h2 : EGs X ts ws r) (hs : (assignEach (tg :: ts) X.env).map (·.2) = assign tg X.env :: (assignEach ts X.env).map (·.2) := by rfl) : EGs X (tg :: ts) (us ++ ws) (gsCons g r) := egs_cons h1 h2 hs
theorem egt {es : List Expr} {us : List Nat} {k n : Nat} {g : List PV → Sk → Option Sk} (hc : X.calm = true) (h : EGs X es us g) (hn : (assignEach es X.env).length = n := by rfl) (hst : (assignEach es X.env).findIdx? (·.1) = none := by rfl) : EG X (.Tuple es k pos) us (gTupF n g) := eg_tup hc h hn hst
theorem asg {tg e : Expr} {us : List Nat} {f : Sk → R PV} {g : PV → Sk → Option Sk} (he : EV X W e f) (hg : EG X tg us g) (hs : swapsWithSole [tg] e pos.line X.env = pure false := by rfl) (hw : swappedStores [tg] e X.env = pure none := by rfl) (h1 : (assignEach [tg] X.env).map (·.2) = [assign tg X.env] := by rfl) :
    VS X W (.Assign [tg] e pos) (asgF f g) := vs_asg he hg hs hw h1
theorem par {i j : Nat} {x y : Str} {a b : Expr} {fa : Sk → R (List OV)} {px py pt : Pos} {kt k2 : Nat} {pt2 : Pos} (hc : X.calm = true) (hN : X.N.Nodup) (hij : i ≠ j) (ha : EA X W [a, b] fa) (hi : X.N[i]? = some x := by rfl) (hj : X.N[j]? = some y := by rfl)
    (hx : X.env.scope.names.lookup x = some .local := by rfl) (hy : X.env.scope.names.lookup y = some .local := by rfl)
    (hw : swappedStores [.Tuple [.Name x px, .Name y py] kt pt] (.Tuple [a, b] k2 pt2) X.env = pure (some [x, y]) := by rfl)
    (hs : swapsWithSole [.Tuple [.Name x px, .Name y py] kt pt] (.Tuple [a, b] k2 pt2) pos.line X.env = pure false := by rfl) :
    VS X W (.Assign [.Tuple [.Name x px, .Name y py] kt pt] (.Tuple [a, b] k2 pt2) pos) (parF i j fa) := vs_par (ps_par hc hN hi hj hij hx hy ha.pa hw hs)
theorem augP {i : Nat} {x : Str} {e : Expr} {f : Sk → R PV} {p : Pos} (hN : X.N.Nodup) (he : EV X W e f) (hi : X.N[i]? = some x := by rfl) (hx : Loc X.env.scope x := by first | exact .inl rfl | exact .inr rfl) (hf : X.fn x = true ∨ X.env.scope.names.lookup x = some .local := by first | exact .inl rfl | exact .inr rfl) :
    VS X W (.AugAssign (.Name x p) .Add e pos) (augF i (sInt yes2 fun i j => i + j) f) := vs_aug (ps_aug hN hi hx he.pe ip_add hf) aug_add
theorem augM {i : Nat} {x : Str} {e : Expr} {f : Sk → R PV} {p : Pos} (hN : X.N.Nodup) (he : EV X W e f) (hi : X.N[i]? = some x := by rfl) (hx : Loc X.env.scope x := by first | exact .inl rfl | exact .inr rfl) (hf : X.fn x = true ∨ X.env.scope.names.lookup x = some .local := by first | exact .inl rfl | exact .inr rfl) :
    VS X W (.AugAssign (.Name x p) .Sub e pos) (augF i (sInt yes2 fun i j => i - j) f) := vs_aug (ps_aug hN hi hx he.pe ip_sub hf) aug_sub
theorem sto {j : Nat} {x : Str} {p : Pos} {i e : Expr} {f fi : Sk → R PV} {p2 : Pos} (he : EV X W e f) (hi : EV X W i fi) (hN : X.N[j]? = some x := by rfl) (hv : Vis X.env.scope x := by first | exact Or.inl rfl | exact Or.inr (Or.inl rfl) | exact Or.inr (Or.inr rfl)) (hd : (x == ("__debug__" : Str)) = false := by decide) (hcd : (x == ("__classdict__" : Str)) = false := by decide)
    (ha : ∀ v, assign (.Subscript (.Name x p) i p2) X.env v = (do
      let ov ← holding [v] (eval (.Name x p) X.env)
      let iv ← holding [v, ov] (eval i X.env)
      standAt p2
      holding [v, ov, iv] (setItem ov iv v)
      release [v, ov, iv] []) := by intro _; rfl)
    (hs : swapsWithSole [.Subscript (.Name x p) i p2] e pos.line X.env = pure false := by rfl) (hw : swappedStores [.Subscript (.Name x p) i p2] e X.env = pure none := by rfl) (h1 : (assignEach [.Subscript (.Name x p) i p2] X.env).map (·.2) = [assign (.Subscript (.Name x p) i p2) X.env] := by rfl) :
    VS X W (.Assign [.Subscript (.Name x p) i p2] e pos) (stF j f fi) := vs_st (ps_asg he.pe (pg_sub (pe_var hN hv hd hcd) hi.pe set_list ha) hs hw h1)
theorem rng1 {tg a : Expr} {fa : Sk → R (List OV)} {p : Pos} (hm : X.mg "range" = none) (ha : EA X W [a] fa) (hg : Gl X "range" := by rfl) (hs : starEach [a] X.env = [(false, eval a X.env)] := by rfl) : EI X W tg (.Call (.Name "range" p) [a] [] pos) (argI sRng1 fa) := ei_range1 hg hm ha hs
theorem rng2 {tg a b : Expr} {fa : Sk → R (List OV)} {p : Pos} (hm : X.mg "range" = none) (ha : EA X W [a, b] fa) (hg : Gl X "range" := by rfl) (hs : starEach [a, b] X.env = [(false, eval a X.env), (false, eval b X.env)] := by rfl) (hs2 : starEach [b] X.env = [(false, eval b X.env)] := by rfl) : EI X W tg (.Call (.Name "range" p) [a, b] [] pos) (argI sRng2 fa) := ei_range2 hg hm ha hs hs2
theorem lzip {a b : Expr} {fa : Sk → R (List OV)} {p p2 pos2 : Pos} (hc : X.calm = true) (hm : X.mg "list" = none) (hm2 : X.mg "zip" = none) (ha : EA X W [a, b] fa) (hg : Gl X "list" := by rfl) (hg2 : Gl X "zip" := by rfl)
    (hs : starEach [a, b] X.env = (false, eval a X.env) :: starEach [b] X.env := by rfl) (hpl : (backTo pos2 (starEach [b] X.env)).any (·.1) = false := by rfl)
    (hs2 : starEach [.Call (.Name "zip" p2) [a, b] [] pos2] X.env = (false, eval (.Call (.Name "zip" p2) [a, b] [] pos2) X.env) :: starEach [] X.env := by rfl) :
    EL X W (.Call (.Name "list" p) [.Call (.Name "zip" p2) [a, b] [] pos2] [] pos) (opA sListZip fa) := el_listZip hc hg hm hg2 hm2 ha hs hpl hs2
theorem eval_t {e : Expr} {f : Sk → R PV} (h : EV X W e f) (he : ∀ whole, isTrue e X.env whole = (do let v ← whole; standAt e.pos; holding [v] (truthy v)) := by intro _; rfl) : ET X W e (tst f) := et_val h he
theorem vfor {tg iter : Expr} {ts : List Nat} {f : Sk → R (List PV × Option Nat)} {g : PV → Sk → Option Sk} {F : Sk → O} {body : List Stmt} (hp : PassesOwn (model X.prog X.w) X.A X.env X.xe) (hc : X.calm = true) (hi : EI X W tg iter f) (hg : EG X tg ts g) (hb : VSs X W body F) (hs : ∀ x, foldedSetIterable iter X.env x = pure x := by intro _; rfl) : VS X W (.For tg iter body [] pos) (forF f g F) := vs_for hp hc hi hg hb hs
theorem vexp {e : Expr} {f : Sk → R PV} (h : EV X W e f) (hs : swapsWith e none pos.line X.env = pure false := by rfl) : VS X W (.Expr e pos) (exprF f) := vs_expr h hs
end
end VL

set_option Elab.async false
set_option linter.all false
set_option autoImplicit false
set_option maxRecDepth 100000
set_option maxHeartbeats 4000000
/-! VSO: whole numbers and tuples of such, in order; sorted(x). -/
namespace VL
open PySem L2

/-- whole numbers and lists of trees -/
inductive Tr where
  | lf (i : Int) | nd (ts : List Tr)
mutual
def eqTr : Tr → Tr → Bool
  | .lf a, .lf b => decide (a = b)
  | .lf _, .nd _ => false
  | .nd _, .lf _ => false
  | .nd xs, .nd ys => eqTrs xs ys
def eqTrs : List Tr → List Tr → Bool
  | [], [] => true
  | [], _ :: _ => false
  | _ :: _, [] => false
  | x :: xs, y :: ys => eqTr x y && eqTrs xs ys
end
mutual
theorem eqTr_iff : ∀ (x y : Tr), eqTr x y = true ↔ x = y
  | .lf a, .lf b => by simp [eqTr]
  | .lf _, .nd _ => by simp [eqTr]
  | .nd _, .lf _ => by simp [eqTr]
  | .nd xs, .nd ys => by simp [eqTr, eqTrs_iff xs ys]
theorem eqTrs_iff : ∀ (x y : List Tr), eqTrs x y = true ↔ x = y
  | [], [] => by simp [eqTrs]
  | [], _ :: _ => by simp [eqTrs]
  | _ :: _, [] => by simp [eqTrs]
  | x :: xs, y :: ys => by simp [eqTrs, eqTr_iff x y, eqTrs_iff xs ys]
end
mutual
def ltTr : Tr → Tr → Bool
  | .lf a, .lf b => decide (a < b)
  | .lf _, .nd _ => true
  | .nd _, .lf _ => false
  | .nd xs, .nd ys => ltTrs xs ys
def ltTrs : List Tr → List Tr → Bool
  | [], [] => false
  | [], _ :: _ => true
  | _ :: _, [] => false
  | x :: xs, y :: ys => ltTr x y || (eqTr x y && ltTrs xs ys)
end
theorem ltTrs_cons {x y : Tr} {xs ys : List Tr} : ltTrs (x :: xs) (y :: ys) = true ↔ ltTr x y = true ∨ (x = y ∧ ltTrs xs ys = true) := by
  rw [ltTrs, Bool.or_eq_true, Bool.and_eq_true, eqTr_iff]
mutual
theorem ltTr_asym : ∀ (x y : Tr), ltTr x y = true → ltTr y x = true → False
  | .lf a, .lf b, h, k => by
    have h' : a < b := of_decide_eq_true (by simpa [ltTr] using h)
    have k' : b < a := of_decide_eq_true (by simpa [ltTr] using k)
    omega
  | .lf _, .nd _, _, k => by simp [ltTr] at k
  | .nd _, .lf _, h, _ => by simp [ltTr] at h
  | .nd xs, .nd ys, h, k => ltTrs_asym xs ys (by simpa [ltTr] using h) (by simpa [ltTr] using k)
theorem ltTrs_asym : ∀ (x y : List Tr), ltTrs x y = true → ltTrs y x = true → False
  | [], [], h, _ => by simp [ltTrs] at h
  | [], _ :: _, _, k => by simp [ltTrs] at k
  | _ :: _, [], h, _ => by simp [ltTrs] at h
  | x :: xs, y :: ys, h, k => by
    rcases ltTrs_cons.mp h with h1 | ⟨e, h2⟩
    · rcases ltTrs_cons.mp k with k1 | ⟨e, k2⟩
      · exact ltTr_asym x y h1 k1
      · subst e; exact ltTr_asym y y h1 h1
    · subst e
      rcases ltTrs_cons.mp k with k1 | ⟨_, k2⟩
      · exact ltTr_asym x x k1 k1
      · exact ltTrs_asym xs ys h2 k2
end
mutual
theorem ltTr_tri : ∀ (x y : Tr), ltTr x y = true ∨ x = y ∨ ltTr y x = true
  | .lf a, .lf b => by
    rcases Int.lt_trichotomy a b with h | h | h
    · exact .inl (by simp [ltTr, h])
    · exact .inr (.inl (by rw [h]))
    · exact .inr (.inr (by simp [ltTr, h]))
  | .lf _, .nd _ => .inl (by simp [ltTr])
  | .nd _, .lf _ => .inr (.inr (by simp [ltTr]))
  | .nd xs, .nd ys => by
    rcases ltTrs_tri xs ys with h | h | h
    · exact .inl (by simpa [ltTr] using h)
    · exact .inr (.inl (by rw [h]))
    · exact .inr (.inr (by simpa [ltTr] using h))
theorem ltTrs_tri : ∀ (x y : List Tr), ltTrs x y = true ∨ x = y ∨ ltTrs y x = true
  | [], [] => .inr (.inl rfl)
  | [], _ :: _ => .inl (by simp [ltTrs])
  | _ :: _, [] => .inr (.inr (by simp [ltTrs]))
  | x :: xs, y :: ys => by
    rcases ltTr_tri x y with h | h | h
    · exact .inl (ltTrs_cons.mpr (.inl h))
    · subst h
      rcases ltTrs_tri xs ys with h | h | h
      · exact .inl (ltTrs_cons.mpr (.inr ⟨rfl, h⟩))
      · exact .inr (.inl (by rw [h]))
      · exact .inr (.inr (ltTrs_cons.mpr (.inr ⟨rfl, h⟩)))
    · exact .inr (.inr (ltTrs_cons.mpr (.inl h)))
end
mutual
theorem ltTr_tr : ∀ (x y z : Tr), ltTr x y = true → ltTr y z = true → ltTr x z = true
  | .lf a, .lf b, .lf c, h, k => by
    have h' : a < b := of_decide_eq_true (by simpa [ltTr] using h)
    have k' : b < c := of_decide_eq_true (by simpa [ltTr] using k)
    simp [ltTr]; omega
  | .lf _, .lf _, .nd _, _, _ => by simp [ltTr]
  | .lf _, .nd _, .nd _, _, _ => by simp [ltTr]
  | .lf _, .nd _, .lf _, _, k => by simp [ltTr] at k
  | .nd _, .lf _, _, h, _ => by simp [ltTr] at h
  | .nd _, .nd _, .lf _, _, k => by simp [ltTr] at k
  | .nd xs, .nd ys, .nd zs, h, k => by
    have := ltTrs_tr xs ys zs (by simpa [ltTr] using h) (by simpa [ltTr] using k)
    simpa [ltTr] using this
theorem ltTrs_tr : ∀ (x y z : List Tr), ltTrs x y = true → ltTrs y z = true → ltTrs x z = true
  | [], [], _, h, _ => by simp [ltTrs] at h
  | [], _ :: _, [], _, k => by simp [ltTrs] at k
  | [], _ :: _, _ :: _, _, _ => by simp [ltTrs]
  | _ :: _, [], _, h, _ => by simp [ltTrs] at h
  | _ :: _, _ :: _, [], _, k => by simp [ltTrs] at k
  | x :: xs, y :: ys, z :: zs, h, k => by
    rcases ltTrs_cons.mp h with h1 | ⟨e, h2⟩
    · rcases ltTrs_cons.mp k with k1 | ⟨e, k2⟩
      · exact ltTrs_cons.mpr (.inl (ltTr_tr x y z h1 k1))
      · subst e; exact ltTrs_cons.mpr (.inl h1)
    · subst e
      rcases ltTrs_cons.mp k with k1 | ⟨e, k2⟩
      · exact ltTrs_cons.mpr (.inl k1)
      · exact ltTrs_cons.mpr (.inr ⟨e, ltTrs_tr xs ys zs h2 k2⟩)
end
theorem ltTr_irr (x : Tr) : ltTr x x = false := by
  rcases hb : ltTr x x with _ | _
  · rfl
  · exact (ltTr_asym x x hb hb).elim
theorem ltTr_no {x y : Tr} (h : ltTr x y = true) : ltTr y x = false := by
  rcases hb : ltTr y x with _ | _
  · rfl
  · exact (ltTr_asym x y h hb).elim
theorem swoTr : SrtO.Swo ltTr := by
  refine ⟨fun x y h => ltTr_no h, fun x y z h1 h2 => ?_⟩
  rcases hb : ltTr z x with _ | _
  · rfl
  · rcases ltTr_tri x y with h3 | h3 | h3
    · rw [ltTr_tr z x y hb h3] at h2; cases h2
    · subst h3
      rw [hb] at h2; cases h2
    · rw [h3] at h1; cases h1
mutual
def tr : PV → Tr
  | .int i => .lf i
  | .tup xs => .nd (trs xs)
  | _ => .lf 0
def trs : List PV → List Tr
  | [] => []
  | x :: xs => tr x :: trs xs
end
mutual
/-- whole numbers and tuples of such -/
def pureP : PV → Bool
  | .int _ => true
  | .tup xs => pureAll xs
  | _ => false
def pureAll : List PV → Bool
  | [] => true
  | x :: xs => pureP x && pureAll xs
end
mutual
theorem tr_inj : ∀ (x y : PV), pureP x = true → pureP y = true → tr x = tr y → x = y
  | .int a, .int b, _, _, e => by cases e; rfl
  | .tup xs, .tup ys, h, k, e => by
    have e' : trs xs = trs ys := by injection e
    rw [trs_inj xs ys h k e']
  | .int _, .tup _, _, _, e => by cases e
  | .tup _, .int _, _, _, e => by cases e
  | .non, _, h, _, _ => by cases h
  | .bl _, _, h, _, _ => by cases h
  | .str _, _, h, _, _ => by cases h
  | .lst _, _, h, _, _ => by cases h
  | .dk _, _, h, _, _ => by cases h
  | .dt _, _, h, _, _ => by cases h
  | .scr _, _, h, _, _ => by cases h
  | .int _, .non, _, k, _ => by cases k
  | .int _, .bl _, _, k, _ => by cases k
  | .int _, .str _, _, k, _ => by cases k
  | .int _, .lst _, _, k, _ => by cases k
  | .int _, .dk _, _, k, _ => by cases k
  | .int _, .dt _, _, k, _ => by cases k
  | .int _, .scr _, _, k, _ => by cases k
  | .tup _, .non, _, k, _ => by cases k
  | .tup _, .bl _, _, k, _ => by cases k
  | .tup _, .str _, _, k, _ => by cases k
  | .tup _, .lst _, _, k, _ => by cases k
  | .tup _, .dk _, _, k, _ => by cases k
  | .tup _, .dt _, _, k, _ => by cases k
  | .tup _, .scr _, _, k, _ => by cases k
theorem trs_inj : ∀ (x y : List PV), pureAll x = true → pureAll y = true → trs x = trs y → x = y
  | [], [], _, _, _ => rfl
  | [], _ :: _, _, _, e => by cases e
  | _ :: _, [], _, _, e => by cases e
  | x :: xs, y :: ys, h, k, e => by
    obtain ⟨h1, h2⟩ := Bool.and_eq_true_iff.mp (show (pureP x && pureAll xs) = true from h)
    obtain ⟨k1, k2⟩ := Bool.and_eq_true_iff.mp (show (pureP y && pureAll ys) = true from k)
    injection e with e1 e2
    rw [tr_inj x y h1 k1 e1, trs_inj xs ys h2 k2 e2]
end
theorem pureAll_mem : ∀ {xs : List PV} {x : PV}, pureAll xs = true → x ∈ xs → pureP x = true
  | x :: xs, y, h, hm => by
    obtain ⟨h1, h2⟩ := Bool.and_eq_true_iff.mp (show (pureP x && pureAll xs) = true from h)
    rcases List.mem_cons.mp hm with rfl | hm
    · exact h1
    · exact pureAll_mem h2 hm
mutual
theorem pEqv_pure : ∀ (x y : PV), pureP x = true → pureP y = true → (pEqv x y = true ↔ x = y)
  | .int a, .int b, _, _ => by simp [pEqv, toPD, PyData.eqv]
  | .tup xs, .tup ys, h, k => by
    have := pEqvs_pure xs ys h k
    show PyData.eqv (.tuple (toPDs xs)) (.tuple (toPDs ys)) = true ↔ _
    rw [show PyData.eqv (.tuple (toPDs xs)) (.tuple (toPDs ys)) = PyData.eqvAll (toPDs xs) (toPDs ys) from by first | rfl | simp [PyData.eqv], this]
    exact ⟨fun e => by rw [e], fun e => by injection e⟩
  | .int _, .tup _, _, _ => by simp [pEqv, toPD, PyData.eqv]
  | .tup _, .int _, _, _ => by simp [pEqv, toPD, PyData.eqv]
  | .non, _, h, _ => by cases h
  | .bl _, _, h, _ => by cases h
  | .str _, _, h, _ => by cases h
  | .lst _, _, h, _ => by cases h
  | .dk _, _, h, _ => by cases h
  | .dt _, _, h, _ => by cases h
  | .scr _, _, h, _ => by cases h
  | .int _, .non, _, k => by cases k
  | .int _, .bl _, _, k => by cases k
  | .int _, .str _, _, k => by cases k
  | .int _, .lst _, _, k => by cases k
  | .int _, .dk _, _, k => by cases k
  | .int _, .dt _, _, k => by cases k
  | .int _, .scr _, _, k => by cases k
  | .tup _, .non, _, k => by cases k
  | .tup _, .bl _, _, k => by cases k
  | .tup _, .str _, _, k => by cases k
  | .tup _, .lst _, _, k => by cases k
  | .tup _, .dk _, _, k => by cases k
  | .tup _, .dt _, _, k => by cases k
  | .tup _, .scr _, _, k => by cases k
theorem pEqvs_pure : ∀ (x y : List PV), pureAll x = true → pureAll y = true → (PyData.eqvAll (toPDs x) (toPDs y) = true ↔ x = y)
  | [], [], _, _ => by simp [toPDs, PyData.eqvAll]
  | [], _ :: _, _, _ => by simp [toPDs, PyData.eqvAll]
  | _ :: _, [], _, _ => by simp [toPDs, PyData.eqvAll]
  | x :: xs, y :: ys, h, k => by
    obtain ⟨h1, h2⟩ := Bool.and_eq_true_iff.mp (show (pureP x && pureAll xs) = true from h)
    obtain ⟨k1, k2⟩ := Bool.and_eq_true_iff.mp (show (pureP y && pureAll ys) = true from k)
    have e1 := pEqv_pure x y h1 k1
    have e2 := pEqvs_pure xs ys h2 k2
    simp only [toPDs, PyData.eqvAll, Bool.and_eq_true, List.cons.injEq]
    rw [show (PyData.eqv (toPD x) (toPD y) = true) = (pEqv x y = true) from rfl, e1, e2]
end
theorem lexP_lt {f : PV → PV → Option Bool} (hf : ∀ x y b, pureP x = true → pureP y = true → f x y = some b → b = ltTr (tr x) (tr y)) : ∀ (xs ys : List PV) (zx zy : Nat) (b : Bool), pureAll xs = true → pureAll ys = true →
    lexP f (decide (zx + xs.length < zy + ys.length)) xs ys = some b → zx = zy → b = ltTrs (trs xs) (trs ys)
  | [], [], zx, zy, b, _, _, e, hz => by
    have e' : some (decide (zx + 0 < zy + 0)) = some b := e
    cases e'
    subst hz
    simp [trs, ltTrs]
  | [], y :: ys, zx, zy, b, _, _, e, hz => by
    have e' : some (decide (zx + 0 < zy + (ys.length + 1))) = some b := e
    cases e'
    subst hz
    simp [trs, ltTrs]
  | x :: xs, [], zx, zy, b, _, _, e, hz => by
    have e' : some (decide (zx + (xs.length + 1) < zy + 0)) = some b := e
    cases e'
    subst hz
    simp [trs, ltTrs]
  | x :: xs, y :: ys, zx, zy, b, h, k, e, hz => by
    obtain ⟨h1, h2⟩ := Bool.and_eq_true_iff.mp (show (pureP x && pureAll xs) = true from h)
    obtain ⟨k1, k2⟩ := Bool.and_eq_true_iff.mp (show (pureP y && pureAll ys) = true from k)
    have e1 : (match lexP f (decide (zx + (xs.length + 1) < zy + (ys.length + 1))) xs ys with
      | some b => if pEqv x y = true then some b else f x y
      | none => none) = some b := e
    have ez : decide (zx + (xs.length + 1) < zy + (ys.length + 1)) = decide ((zx + 1) + xs.length < (zy + 1) + ys.length) := by
      congr 1
      exact propext ⟨fun h => by omega, fun h => by omega⟩
    rw [ez] at e1
    cases hl : lexP f (decide ((zx + 1) + xs.length < (zy + 1) + ys.length)) xs ys with
    | none => rw [hl] at e1; cases e1
    | some c =>
      rw [hl] at e1
      dsimp only at e1
      have ih := lexP_lt hf xs ys (zx + 1) (zy + 1) c h2 k2 hl (by omega)
      by_cases he : pEqv x y = true
      · rw [if_pos he] at e1
        cases e1
        have exy := (pEqv_pure x y h1 k1).mp he
        subst exy
        rw [ih, trs, trs, ltTrs, ltTr_irr, (eqTr_iff _ _).mpr rfl]
        rfl
      · rw [if_neg he] at e1
        have := hf x y b h1 k1 e1
        have ne : eqTr (tr x) (tr y) = false := by
          rcases hb : eqTr (tr x) (tr y) with _ | _
          · rfl
          · exact absurd ((pEqv_pure x y h1 k1).mpr (tr_inj x y h1 k1 ((eqTr_iff _ _).mp hb))) he
        rw [this, trs, trs, ltTrs, ne, Bool.false_and, Bool.or_false]
/-- the order of the operator is the order of the trees -/
theorem ordP_lt : ∀ (n : Nat) (x y : PV) (b : Bool), pureP x = true → pureP y = true → ordP .Lt n x y = some b → b = ltTr (tr x) (tr y) := by
  intro n
  induction n with
  | zero =>
    intro x y b h k e
    cases x <;> first | (cases h; done) | skip
    · cases y <;> first | (cases k; done) | (cases e; done) | skip
      cases e
      simp [tr, ltTr, ordI]
    · cases y <;> first | (cases k; done) | (cases e; done)
  | succ n ih =>
    intro x y b h k e
    cases x <;> first | (cases h; done) | skip
    · cases y <;> first | (cases k; done) | (cases e; done) | skip
      cases e
      simp [tr, ltTr, ordI]
    · cases y <;> first | (cases k; done) | (cases e; done) | skip
      rename_i xs ys
      have e' : lexP (ordP .Lt n) (decide (0 + xs.length < 0 + ys.length)) xs ys = some b := by
        rw [Nat.zero_add, Nat.zero_add]
        exact e
      rw [tr, tr, ltTr]
      exact lexP_lt ih xs ys 0 0 b h k e' rfl
mutual
theorem rep_uniq {K : PySem.W.Frag} {H : Hp} : ∀ {x y : PV} {v : V}, pureP x = true → pureP y = true → Rep K H v x → Rep K H v y → x = y
  | .int a, y, v, _, k, r, r' => by
    cases r
    cases r' with
    | int i => rfl
  | .tup xs, y, v, h, k, r, r' => by
    cases r with
    | tup h1 r1 =>
      cases r' with
      | tup h2 r2 =>
        rw [h1] at h2
        cases h2
        rw [repA_uniq h k r1 r2]
      | lst _ _ => cases k
      | scr _ => cases k
      | dk _ _ => cases k
      | dt _ _ => cases k
  | .non, _, _, h, _, _, _ => by cases h
  | .bl _, _, _, h, _, _, _ => by cases h
  | .str _, _, _, h, _, _, _ => by cases h
  | .lst _, _, _, h, _, _, _ => by cases h
  | .dk _, _, _, h, _, _, _ => by cases h
  | .dt _, _, _, h, _, _, _ => by cases h
  | .scr _, _, _, h, _, _, _ => by cases h
theorem repA_uniq {K : PySem.W.Frag} {H : Hp} : ∀ {xs ys : List PV} {vs : List V}, pureAll xs = true → pureAll ys = true → RepA K H vs xs → RepA K H vs ys → xs = ys
  | [], _, _, _, _, r, r' => by
    cases r
    cases r'
    rfl
  | x :: xs, _, _, h, k, r, r' => by
    cases r with
    | cons a b =>
      cases r' with
      | cons c d =>
        obtain ⟨h1, h2⟩ := Bool.and_eq_true_iff.mp (show (pureP x && pureAll xs) = true from h)
        obtain ⟨k1, k2⟩ := Bool.and_eq_true_iff.mp (show (pureP _ && pureAll _) = true from k)
        rw [rep_uniq h1 k1 a c, repA_uniq h2 k2 b d]
end
end VL

set_option Elab.async false
set_option linter.all false
set_option autoImplicit false
set_option maxRecDepth 100000
set_option maxHeartbeats 4000000
/-! VSP: sorted(x), x a list of tuples of whole numbers (nested, of any lengths). -/
namespace VL
open PySem L2
section
variable {X : Cx} {pins : List (Addr × Obj)} {σ : St} {H : Hp} {s : Shared}
/-- two tuples, item by item -/
theorem tup_parts (I : Inv X pins σ H s) {n : Nat} {B : Around} {a b : Addr} {xs ys : List PV} {c : Bool} (hx : Rep X.K H (.ref a) (.tup xs)) (hy : Rep X.K H (.ref b) (.tup ys)) (cx : (toPD (.tup xs)).canLay0 = true) (cy : (toPD (.tup ys)).canLay0 = true) (dx : (toPD (.tup xs)).depth ≤ 64)
    (hu : B.units + n + 66 < cLine) (e : lexP (ordP .Lt n) (ordN .Lt xs.length ys.length) xs ys = some c) :
    ∃ (its its2 : List Value) (ee rr : Nat → Bool), s.heap.IsTuple a its.toArray ∧ s.heap.IsTuple b its2.toArray ∧ its.length = xs.length ∧ its2.length = ys.length ∧
      (∀ j (g1 : j < its.toArray.size) (g2 : j < its2.toArray.size), SeqAt.EqAt B s its.toArray[j] its2.toArray[j] (ee j)) ∧
      (∀ j (g1 : j < its.toArray.size) (g2 : j < its2.toArray.size), ee j = false → Ob.RcOp .Lt B s its.toArray[j] its2.toArray[j] (rr j)) ∧
      (∀ j, ee j = pEqv (xs.getD j .non) (ys.getD j .non)) ∧ (∀ j i k, xs[j]? = some (.int i) → ys[j]? = some (.int k) → rr j = decide (i < k)) ∧
      Ob.lexAt ee rr (decide (its.toArray.size < its2.toArray.size)) 0 (min its.toArray.size its2.toArray.size) = c ∧
      (∀ j (g : j < its.toArray.size) i, xs[j]? = some (.int i) → ∃ t, its.toArray[j] = .int i t) ∧ (∀ j (g : j < its2.toArray.size) i, ys[j]? = some (.int i) → ∃ t, its2.toArray[j] = .int i t) := by
  cases hx with
  | tup h1 r1 =>
    cases hy with
    | tup h2 r2 =>
      obtain ⟨its, q1, p1, _⟩ := I.tuple (SqT.of h1)
      obtain ⟨its2, q2, p2, _⟩ := I.tuple (SqT.of h2)
      have l1 : its.toArray.size = xs.length := by rw [List.size_toArray, ← q1.length, r1.length]
      have l2 : its2.toArray.size = ys.length := by rw [List.size_toArray, ← q2.length, r2.length]
      have at1 : ∀ (j : Nat) (h : j < its.toArray.size), ∃ v x, xs[j]? = some x ∧ Rep X.K H v x ∧ RelV v its.toArray[j] := fun j h => by
        have hj : j < xs.length := by omega
        obtain ⟨v, hv, rv⟩ := r1.get' (List.getElem?_eq_getElem hj)
        obtain ⟨w, hw, rw2⟩ := q1.get hv
        refine ⟨v, xs[j], List.getElem?_eq_getElem hj, rv, ?_⟩
        have : its.toArray[j]? = some w := by simpa using hw
        rw [Array.getElem?_eq_getElem h] at this
        cases this
        exact rw2
      have at2 : ∀ (j : Nat) (h : j < its2.toArray.size), ∃ v x, ys[j]? = some x ∧ Rep X.K H v x ∧ RelV v its2.toArray[j] := fun j h => by
        have hj : j < ys.length := by omega
        obtain ⟨v, hv, rv⟩ := r2.get' (List.getElem?_eq_getElem hj)
        obtain ⟨w, hw, rw2⟩ := q2.get hv
        refine ⟨v, ys[j], List.getElem?_eq_getElem hj, rv, ?_⟩
        have : its2.toArray[j]? = some w := by simpa using hw
        rw [Array.getElem?_eq_getElem h] at this
        cases this
        exact rw2
      have k1 := lay_items cx
      have k2 := lay_items cy
      have k3 := depth_items (n := 63) (by omega : (toPD (.tup xs)).depth ≤ 63 + 1)
      refine ⟨its, its2, fun j => pEqv (xs.getD j .non) (ys.getD j .non), fun j => (ordP .Lt n (xs.getD j .non) (ys.getD j .non)).getD false, p1, p2, by simpa using l1, by simpa using l2, fun j g1 g2 => ?_, fun j g1 g2 hne => ?_, fun j => rfl, fun j i k e1 e2 => ?_, ?_, fun j g i e1 => ?_, fun j g i e1 => ?_⟩
      · obtain ⟨v, x, ex, rx, rv⟩ := at1 j g1
        obtain ⟨v', x', ex', rx', rv'⟩ := at2 j g2
        have m1 := List.mem_of_getElem? ex
        have m2 := List.mem_of_getElem? ex'
        have z1 : xs.getD j .non = x := by rw [List.getD_eq_getElem?_getD, ex]; rfl
        have z2 : ys.getD j .non = x' := by rw [List.getD_eq_getElem?_getD, ex']; rfl
        show SeqAt.EqAt B s _ _ (pEqv (xs.getD j .non) (ys.getD j .non))
        rw [z1, z2]
        have := k3 x m1
        exact eqAt_rep I rx rx' rv rv' (k1 x m1) (k2 x' m2) (by omega)
      · obtain ⟨v, x, ex, rx, rv⟩ := at1 j g1
        obtain ⟨v', x', ex', rx', rv'⟩ := at2 j g2
        have m1 := List.mem_of_getElem? ex
        have m2 := List.mem_of_getElem? ex'
        have z1 : xs.getD j .non = x := by rw [List.getD_eq_getElem?_getD, ex]; rfl
        have z2 : ys.getD j .non = x' := by rw [List.getD_eq_getElem?_getD, ex']; rfl
        have hne' : pEqv (xs.getD j .non) (ys.getD j .non) = false := hne
        show Ob.RcOp .Lt B s _ _ ((ordP .Lt n (xs.getD j .non) (ys.getD j .non)).getD false)
        rw [z1, z2] at hne' ⊢
        obtain ⟨d, hd⟩ := lexP_some e j x x' ex ex' hne'
        rw [hd]
        have := k3 x m1
        exact rc_ord (.inl rfl) I n B x x' v v' _ _ d rx rx' rv rv' (k1 x m1) (k2 x' m2) (by omega) (by omega) hd
      · show (ordP .Lt n (xs.getD j .non) (ys.getD j .non)).getD false = _
        rw [List.getD_eq_getElem?_getD, List.getD_eq_getElem?_getD, e1, e2]
        cases n <;> rfl
      · have fin := lexP_at (e := fun j => pEqv (xs.getD j .non) (ys.getD j .non)) (r := fun j => (ordP .Lt n (xs.getD j .non) (ys.getD j .non)).getD false) 0 e
          (fun j x y h3 h4 => by rw [Nat.zero_add, List.getD_eq_getElem?_getD, List.getD_eq_getElem?_getD, h3, h4]; rfl)
          (fun j x y c h3 h4 h5 => by
            show (ordP .Lt n (xs.getD (0 + j) .non) (ys.getD (0 + j) .non)).getD false = c
            rw [Nat.zero_add, List.getD_eq_getElem?_getD, List.getD_eq_getElem?_getD, h3, h4]
            show (ordP .Lt n x y).getD false = c
            rw [h5]; rfl)
        rw [← l1, ← l2] at fin
        exact fin
      · obtain ⟨v, x, ex, rx, rv⟩ := at1 j g
        rw [e1] at ex
        cases ex
        cases rx
        exact rv
      · obtain ⟨v, x, ex, rx, rv⟩ := at2 j g
        rw [e1] at ex
        cases ex
        cases rx
        exact rv
variable {prog : Program} {w : World} {A : Around} {E : Value → Shared → Prop}
/-- x < y as the sort of one type asks it -/
theorem one_tup (I : Inv X pins σ H s) {n : Nat} {a b : Addr} {xs ys : List PV} {c : Bool} {Q : Bool → Shared → Prop} (hx : Rep X.K H (.ref a) (.tup xs)) (hy : Rep X.K H (.ref b) (.tup ys)) (cx : (toPD (.tup xs)).canLay0 = true) (cy : (toPD (.tup ys)).canLay0 = true) (dx : (toPD (.tup xs)).depth ≤ 64)
    (hu : A.units + n + 68 < cLine) (e : lexP (ordP .Lt n) (ordN .Lt xs.length ys.length) xs ys = some c) (h : Q c s) : wpAny (model prog w) A (PyProof.Rows.oneLt' true (.ref a) (.ref b)) Q E s := by
  obtain ⟨its, its2, ee, rr, p1, p2, _, _, he, hr, _, _, fin, _, _⟩ := tup_parts I (B := A.in1) hx hy cx cy dx (by show A.units + 1 + n + 66 < cLine; omega) e
  obtain ⟨⟨cls, dd, data, sl⟩, ho, hc, k, hd⟩ := id p1
  obtain ⟨⟨cls2, dd2, data2, sl2⟩, ho2, hc2, k2, hd2⟩ := id p2
  simp only at hc hd hc2 hd2
  subst hc hd hc2 hd2
  rw [PyProof.Rows.oneLt'_eq]
  simp only [if_true]
  refine wpAny_bind (wpAny_cRoomFor (by omega) ?_)
  refine wpAny_bind (wpAny_callSpecialIfBound?_slot ⟨_, ho, rfl⟩ F.slot_tuple_lt (call_meets F.slot_tuple_lt ⟨_, ho, rfl⟩ F.entry_tuple_lt (F.args_tuple_lt_2 _ _) (Ob.tuple_ltAt a b its.toArray its2.toArray k k2 dd dd2 sl sl2 ee rr) ⟨ho, ho2, he, hr, ?_⟩))
  rw [fin]
  exact wpAny_truthy_bool h
theorem one_gen (I : Inv X pins σ H s) {n : Nat} {a b : Addr} {xs ys : List PV} {c : Bool} {Q : Bool → Shared → Prop} (hx : Rep X.K H (.ref a) (.tup xs)) (hy : Rep X.K H (.ref b) (.tup ys)) (cx : (toPD (.tup xs)).canLay0 = true) (cy : (toPD (.tup ys)).canLay0 = true) (dx : (toPD (.tup xs)).depth ≤ 64)
    (hu : A.units + n + 68 < cLine) (e : ordP .Lt (n + 1) (.tup xs) (.tup ys) = some c) (h : Q c s) : wpAny (model prog w) A (PyProof.Rows.oneLt' false (.ref a) (.ref b)) Q E s :=
  PySem.W.kat_one _ _ (rc_ord (.inl rfl) I (n + 1) A _ _ _ _ _ _ c hx hy rfl rfl cx cy dx (by omega) e prog w E (PySem.W.BoolBack Q) h)
theorem kat_lex {flag z : Bool} {its its2 : List Value} {ee rr : Nat → Bool} {Q : Bool → Shared → Prop} (he : ∀ j (g1 : j < its.toArray.size) (g2 : j < its2.toArray.size), SeqAt.EqAt A s its.toArray[j] its2.toArray[j] (ee j))
    (hr : ∀ j (g1 : j < its.toArray.size) (g2 : j < its2.toArray.size), ee j = false → Ob.RcOp .Lt A s its.toArray[j] its2.toArray[j] (rr j))
    (hf : flag = true → ∀ (g1 : 0 < its.toArray.size) (g2 : 0 < its2.toArray.size), ∃ i k t u, its.toArray[0] = .int i t ∧ its2.toArray[0] = .int k u ∧ rr 0 = decide (i < k)) :
    ∀ (k i : Nat), i + k = min its.length its2.length → Q (Ob.lexAt ee rr z i k) s → PySem.W.KatLex prog w A flag z Q ((its.zip its2).drop i) i s := by
  intro k
  induction k with
  | zero =>
    intro i hi h
    have : (its.zip its2).drop i = [] := List.drop_of_length_le (by rw [List.length_zip]; omega)
    rw [this]
    exact PySem.W.kat_nil h
  | succ k ih =>
    intro i hi h
    have g1 : i < its.length := by omega
    have g2 : i < its2.length := by omega
    have hd : (its.zip its2).drop i = (its[i], its2[i]) :: (its.zip its2).drop (i + 1) := by
      rw [List.drop_eq_getElem_cons (by rw [List.length_zip]; omega), List.getElem_zip]
    have G1 : i < its.toArray.size := by simpa using g1
    have G2 : i < its2.toArray.size := by simpa using g2
    have ea : its.toArray[i] = its[i] := by simp
    have eb : its2.toArray[i] = its2[i] := by simp
    rw [hd]
    rw [Ob.lexAt_succ] at h
    have e1 := he i G1 G2
    rw [ea, eb] at e1
    refine PySem.W.kat_cons (e1 prog w _ _ ?_)
    cases hb : ee i with
    | true =>
      rw [hb, if_pos rfl] at h
      exact PySem.W.kat_yes (ih (i + 1) (by omega) h)
    | false =>
      rw [hb, if_neg Bool.false_ne_true] at h
      refine PySem.W.kat_no ?_
      have r1 := hr i G1 G2 hb
      rw [ea, eb] at r1
      cases hfl : (flag && i == 0) with
      | false => exact PySem.W.kat_one _ _ (r1 prog w _ (PySem.W.BoolBack Q) h)
      | true =>
        obtain ⟨hf1, hi0⟩ := Bool.and_eq_true_iff.mp hfl
        have hi0 : i = 0 := by simpa using hi0
        subst hi0
        obtain ⟨x, y, t, u, k1, k2, k3⟩ := hf hf1 G1 G2
        rw [ea] at k1
        rw [eb] at k2
        rw [k1, k2]
        refine PyProof.Rows.oneLt_int ?_
        rw [← k3]
        exact h
/-- the first item of each key -/
def FirstsO (h : Heap) : List Value → List (Option Value) → Prop
  | [], [] => True
  | v :: vs, f :: fs => (∃ a o xs n, v = .ref a ∧ h.get? a = some o ∧ o.cls = .type "tuple" ∧ o.data = .seq xs n ∧ xs[0]? = f) ∧ FirstsO h vs fs
  | _, _ => False
theorem firsts_run {M : Model} : ∀ (vs : List Value) (fs : List (Option Value)) {Q : List (Option Value) → Shared → Prop}, FirstsO s.heap vs fs → Q fs s → wpAny M A (vs.mapM PyProof.Rows.firstOfTuple') Q E s
  | [], [], _, _, h => by rw [List.mapM_nil]; exact wpAny_pure h
  | [], _ :: _, _, t, _ => t.elim
  | _ :: _, [], _, t, _ => t.elim
  | v :: vs, f :: fs, Q, t, h => by
    obtain ⟨⟨a, o, xs, n, rfl, ho, hc, hd, hf⟩, t⟩ := t
    rw [List.mapM_cons]
    refine wpAny_bind ?_
    rw [PySem.W.kas_first_eq]
    refine wpAny_bind (PySem.W.Looks.here (show PySem.W.Looks M s.heap (typeOf (.ref a)) o.cls from (PySem.W.Looks.ld ho).andThen .now) ?_)
    rw [hc, if_neg (by first | decide | simp)]
    refine wpAny_bind (PyProof.Rows.listItems_at ho hd (wpAny_pure ?_))
    rw [hf]
    exact wpAny_bind (firsts_run vs fs (Q := fun bs s' => wpAny M A (pure (f :: bs)) Q E s') t (wpAny_pure h))
theorem FirstsO.types {M : Model} : ∀ {vs : List Value} {fs : List (Option Value)}, FirstsO s.heap vs fs → ∀ v ∈ vs, PySem.W.Looks M s.heap (typeOf v) (.type "tuple")
  | v :: vs, f :: fs, t, u, hu => by
    obtain ⟨⟨a, o, xs, n, e, ho, hc, hd, hf⟩, t⟩ := t
    rcases List.mem_cons.mp hu with rfl | hu
    · subst e
      rw [← hc]
      exact (show PySem.W.Looks M s.heap (typeOf (.ref a)) o.cls from (PySem.W.Looks.ld ho).andThen .now)
    · exact FirstsO.types t u hu
  | [], [], _, u, hu => by cases hu
  | _ :: _, [], t, _, _ => t.elim
  | [], _ :: _, t, _, _ => t.elim
/-- some key is empty -/
theorem kind_mixed {M : Model} {vs : List Value} {fs : List (Option Value)} {Q : PyProof.Rows.SortKind → Shared → Prop} (h2 : 0 < vs.length) (t : FirstsO s.heap vs fs) (hn : fs.all (·.isSome) = false) (hq : Q (if (fs.toArray[0]?.bind id).isSome = true then PyProof.Rows.general' else PyProof.Rows.oneType') s) : wpAny M A (PyProof.Rows.keyKind' vs.toArray) Q E s := by
  rw [PyProof.Rows.kat_kind_eq, List.mapM_toArray, map_eq_pure_bind]
  refine wpAny_bind (wpAny_bind (firsts_run vs fs t (wpAny_pure ?_)))
  have hall : (fs.toArray.all fun x => x.isSome) = false := by simpa using hn
  rw [if_neg (by rw [hall]; exact Bool.false_ne_true)]
  by_cases hb : (fs.toArray[0]?.bind id).isSome = true
  · rw [if_pos hb] at hq ⊢
    exact wpAny_pure hq
  · rw [if_neg hb] at hq ⊢
    obtain ⟨v₁, vr, rfl⟩ : ∃ v₁ vr, vs = v₁ :: vr := by
      match vs, h2 with
      | v₁ :: vr, _ => exact ⟨v₁, vr, rfl⟩
    rw [PyProof.Rows.oneTypeOnly'_eq, List.mapM_toArray, map_eq_pure_bind]
    refine wpAny_bind (wpAny_bind (wpAny_bind (PySem.W.kas_mapM (r := Value.type "tuple") _ (fun v hv Q' hq => (t.types v hv).here hq) (wpAny_pure ?_))))
    have hall2 : ((List.map (fun _ => Value.type "tuple") (v₁ :: vr)).toArray.all fun x => x == Value.type "tuple") = true := by
      simp
    have h0 : (List.map (fun _ => Value.type "tuple") (v₁ :: vr)).toArray[0]? = some (Value.type "tuple") := by simp
    rw [h0]
    simp only [hall2, if_true]
    exact wpAny_pure (wpAny_pure hq)
/-! ### what may be sorted -/
def headInt : PV → Bool
  | .tup (.int _ :: _) => true
  | _ => false
def headTup : PV → Bool
  | .tup (.tup _ :: _) => true
  | _ => false
def isEmpT : PV → Bool
  | .tup [] => true
  | _ => false
def isTupP : PV → Bool
  | .tup _ => true
  | _ => false
def cmpAll (xs : List PV) : Bool := xs.all fun x => xs.all fun y => (ordP .Lt 8 x y).isSome
def tupsOk (xs : List PV) : Bool := xs.all isTupP && (xs.all pureP && (xs.all pOk && (cmpAll xs && (xs.all headInt || (xs.all headTup || xs.any isEmpT)))))
structure TupsOk (xs : List PV) : Prop where
  tup : ∀ x ∈ xs, ∃ ys, x = .tup ys
  pure : ∀ x ∈ xs, pureP x = true
  ok : ∀ x ∈ xs, pOk x = true
  cmp : ∀ x ∈ xs, ∀ y ∈ xs, ∃ c, ordP .Lt 8 x y = some c
  head : (∀ x ∈ xs, headInt x = true) ∨ (∀ x ∈ xs, headTup x = true) ∨ ∃ x ∈ xs, isEmpT x = true
theorem tupsOk_of {xs : List PV} (h : tupsOk xs = true) : TupsOk xs := by
  unfold tupsOk cmpAll at h
  simp only [Bool.and_eq_true, Bool.or_eq_true, List.all_eq_true, List.any_eq_true] at h
  obtain ⟨h1, h2, h3, h4, h5⟩ := h
  refine ⟨fun x hx => ?_, h2, h3, fun x hx y hy => Option.isSome_iff_exists.mp (h4 x hx y hy), h5⟩
  have := h1 x hx
  cases x <;> first | exact ⟨_, rfl⟩ | cases this
theorem headInt_inv : ∀ {zs : List PV}, headInt (.tup zs) = true → ∃ i zt, zs = .int i :: zt
  | .int i :: zt, _ => ⟨i, zt, rfl⟩
  | [], h => by cases h
  | .non :: _, h => by cases h
  | .bl _ :: _, h => by cases h
  | .str _ :: _, h => by cases h
  | .tup _ :: _, h => by cases h
  | .lst _ :: _, h => by cases h
  | .dk _ :: _, h => by cases h
  | .dt _ :: _, h => by cases h
  | .scr _ :: _, h => by cases h
theorem headTup_inv : ∀ {zs : List PV}, headTup (.tup zs) = true → ∃ ys zt, zs = .tup ys :: zt
  | .tup i :: zt, _ => ⟨i, zt, rfl⟩
  | [], h => by cases h
  | .non :: _, h => by cases h
  | .bl _ :: _, h => by cases h
  | .str _ :: _, h => by cases h
  | .int _ :: _, h => by cases h
  | .lst _ :: _, h => by cases h
  | .dk _ :: _, h => by cases h
  | .dt _ :: _, h => by cases h
  | .scr _ :: _, h => by cases h
theorem vals_at {ws : List V} {vs : List Value} (rv : Vals ws vs) {v : Value} (h : v ∈ vs) : ∃ (j : Nat) (w : V), vs[j]? = some v ∧ ws[j]? = some w ∧ RelV w v := by
  obtain ⟨j, hj⟩ := List.mem_iff_getElem?.mp h
  rcases vals_get rv j with ⟨a, b⟩ | ⟨w, u, a, b, c⟩
  · rw [b] at hj; cases hj
  · rw [b] at hj
    cases hj
    exact ⟨j, w, b, a, c⟩
theorem tups_cmp (I : Inv X pins σ H s) (hu : A.units + 76 < cLine) {vs : List Value} {ws : List V} {xs : List PV} (rv : Vals ws vs) (ra : RepA X.K H ws xs) (T : TupsOk xs) {k : V → Tr} (hk : ∀ (j : Nat) (w : V) (x : PV), ws[j]? = some w → xs[j]? = some x → k w = tr x)
    {κ : PyProof.Rows.SortKind} (hκ : κ = PyProof.Rows.general' ∨ κ = PyProof.Rows.oneType' ∨ κ = PyProof.Rows.tuples' false ∨ (κ = PyProof.Rows.tuples' true ∧ ∀ x ∈ xs, headInt x = true)) :
    SrtO.Cmp X.prog X.w A s κ (fun p => p.1 ∈ vs) (SrtO.lt2 fun v u => ltTr (k (backV v)) (k (backV u))) := by
  intro p q hp hq
  obtain ⟨j, w, j1, j2, j3⟩ := vals_at rv hp
  obtain ⟨l, w', l1, l2, l3⟩ := vals_at rv hq
  obtain ⟨x, x1, x2⟩ := ra.get j2
  obtain ⟨y, y1, y2⟩ := ra.get l2
  have mx := List.mem_of_getElem? x1
  have my := List.mem_of_getElem? y1
  obtain ⟨zs, rfl⟩ := T.tup x mx
  obtain ⟨zs', rfl⟩ := T.tup y my
  obtain ⟨c, hc⟩ := T.cmp _ mx _ my
  have ec := ordP_lt 8 _ _ c (T.pure _ mx) (T.pure _ my) hc
  have ox := T.ok _ mx
  have oy := T.ok _ my
  obtain ⟨a, _, rfl, _, _⟩ := RT.tup (.inl x2)
  obtain ⟨b, _, rfl, _, _⟩ := RT.tup (.inl y2)
  have e1 : p.1 = .ref a := j3
  have e2 : q.1 = .ref b := l3
  have k1 : k (V.ref a) = tr (.tup zs) := hk j _ _ j2 x1
  have k2 : k (V.ref b) = tr (.tup zs') := hk l _ _ l2 y1
  have elt : SrtO.lt2 (fun v u => ltTr (k (backV v)) (k (backV u))) p q = c := by
    show ltTr (k (backV p.1)) (k (backV q.1)) = c
    rw [e1, e2]
    show ltTr (k (V.ref a)) (k (V.ref b)) = c
    rw [k1, k2, ec]
  rw [elt, e1, e2]
  have hc' : lexP (ordP .Lt 7) (ordN .Lt zs.length zs'.length) zs zs' = some c := hc
  have kat : ∀ flag : Bool, (flag = true → (∀ x ∈ xs, headInt x = true)) → wpAny (model X.prog X.w) A (PyProof.Rows.keyLt' (PyProof.Rows.tuples' flag) (.ref a) (.ref b)) (fun r s' => s' = s ∧ r = c) (fun _ _ => False) s := fun flag hfl => by
    obtain ⟨its, its2, ee, rr, p1, p2, n1, n2, he, hr, hee, hrr, fin, it1, it2⟩ := tup_parts I (B := A) x2 y2 (pOk_lay ox) (pOk_lay oy) (pOk_depth ox) (by omega) hc'
    obtain ⟨o, ho, hcl, n, hd⟩ := p1
    obtain ⟨o2, ho2, hcl2, n', hd2⟩ := p2
    refine PySem.W.kat_lt ho hd ho2 hd2 ?_
    have := kat_lex (s := s) (A := A) (prog := X.prog) (w := X.w) (flag := flag) (z := decide (its.toArray.size < its2.toArray.size)) (Q := fun r s' => s' = s ∧ r = c) he hr (fun hf g1 g2 => by
      have h1 := hfl hf _ mx
      have h2 := hfl hf _ my
      obtain ⟨i, zt, ez⟩ := headInt_inv h1
      obtain ⟨i', zt', ez'⟩ := headInt_inv h2
      subst ez
      subst ez'
      obtain ⟨t, ht⟩ := it1 0 g1 i rfl
      obtain ⟨u, hu⟩ := it2 0 g2 i' rfl
      exact ⟨i, i', t, u, ht, hu, hrr 0 i i' rfl rfl⟩) (min its.length its2.length) 0 (by omega) ⟨rfl, by
        have e1 : its.toArray.size = its.length := by simp
        have e2 : its2.toArray.size = its2.length := by simp
        rw [e1, e2] at fin ⊢
        exact fin⟩
    simpa using this
  rcases hκ with rfl | rfl | rfl | ⟨rfl, hh⟩
  · exact one_gen I x2 y2 (pOk_lay ox) (pOk_lay oy) (pOk_depth ox) (n := 7) (by omega) hc ⟨rfl, rfl⟩
  · rw [PyProof.Rows.keyLt'_oneType]
    exact one_tup I x2 y2 (pOk_lay ox) (pOk_lay oy) (pOk_depth ox) (n := 7) (by omega) hc' ⟨rfl, rfl⟩
  · exact kat false (fun h => by cases h)
  · exact kat true (fun _ => hh)
end
end VL

set_option Elab.async false
set_option linter.all false
set_option autoImplicit false
set_option maxRecDepth 100000
set_option maxHeartbeats 4000000
/-! VSQ: sorted(x). -/
namespace VL
open PySem L2
def ltP (x y : PV) : Bool := ltTr (tr x) (tr y)
def insP (x : PV) : List PV → List PV
  | [] => [x]
  | y :: ys => if ltP x y = true then x :: y :: ys else y :: insP x ys
def srtP : List PV → List PV
  | [] => []
  | x :: xs => insP x (srtP xs)
theorem insP_perm (x : PV) : ∀ ys : List PV, (insP x ys).Perm (x :: ys)
  | [] => .refl _
  | y :: ys => by
    unfold insP
    split
    · exact .refl _
    · exact ((insP_perm x ys).cons y).trans (.swap x y ys)
theorem srtP_perm : ∀ xs : List PV, (srtP xs).Perm xs
  | [] => .refl _
  | x :: xs => (insP_perm x (srtP xs)).trans ((srtP_perm xs).cons x)
abbrev SrtdP (l : List PV) : Prop := l.Pairwise fun x y => ltP y x = false
theorem insP_srtd {x : PV} : ∀ {ys : List PV}, SrtdP ys → SrtdP (insP x ys)
  | [], _ => List.pairwise_singleton _ _
  | y :: ys, h => by
    obtain ⟨h1, h2⟩ := List.pairwise_cons.mp h
    unfold insP
    split
    · rename_i hx
      refine List.pairwise_cons.mpr ⟨fun z hz => ?_, h⟩
      rcases List.mem_cons.mp hz with rfl | hz
      · exact ltTr_no hx
      · rcases hb : ltP z x with _ | _
        · rfl
        · have := ltTr_tr _ _ _ hb hx
          have h3 := h1 z hz
          rw [show ltP z y = true from this] at h3; cases h3
    · rename_i hx
      refine List.pairwise_cons.mpr ⟨fun z hz => ?_, insP_srtd h2⟩
      rcases List.mem_cons.mp ((insP_perm x ys).mem_iff.mp hz) with rfl | hz
      · rcases hb : ltP z y with _ | _
        · rfl
        · exact absurd hb hx
      · exact h1 z hz
theorem srtP_srtd : ∀ xs : List PV, SrtdP (srtP xs)
  | [] => .nil
  | x :: xs => insP_srtd (srtP_srtd xs)
/-- one order of the same items -/
theorem srtd_uniq : ∀ {xs ys : List PV}, (∀ x ∈ xs, pureP x = true) → SrtdP xs → SrtdP ys → xs.Perm ys → xs = ys
  | [], ys, _, _, _, p => (List.nil_perm.mp p).symm
  | x :: xs, [], _, _, _, p => by have := p.length_eq; simp at this
  | x :: xs, y :: ys, h, hx, hy, p => by
    obtain ⟨a1, a2⟩ := List.pairwise_cons.mp hx
    obtain ⟨b1, b2⟩ := List.pairwise_cons.mp hy
    have px := h x List.mem_cons_self
    have py := h y (p.mem_iff.mpr List.mem_cons_self)
    have e : x = y := by
      have m1 : y ∈ x :: xs := p.mem_iff.mpr List.mem_cons_self
      have m2 : x ∈ y :: ys := p.mem_iff.mp List.mem_cons_self
      rcases List.mem_cons.mp m1 with e | m1
      · exact e.symm
      · rcases List.mem_cons.mp m2 with e | m2
        · exact e
        · have c1 := a1 y m1
          have c2 := b1 x m2
          rcases ltTr_tri (tr x) (tr y) with t | t | t
          · rw [show ltP x y = true from t] at c2; cases c2
          · exact tr_inj x y px py t
          · rw [show ltP y x = true from t] at c1; cases c1
    subst e
    rw [srtd_uniq (fun z hz => h z (List.mem_cons_of_mem _ hz)) a2 b2 (List.perm_cons x |>.mp p)]
section
variable {X : Cx} {pins : List (Addr × Obj)} {σ : St} {H : Hp} {s : Shared} {A : Around}
theorem kat_ints (I : Inv X pins σ H s) : ∀ {vs : List Value} {ws : List V} {xs : List PV}, Vals ws vs → RepA X.K H ws xs → (∀ x ∈ xs, headInt x = true) → ∃ fs, PySem.W.KatTups s.heap vs fs ∧ fs.length = vs.length ∧ ∀ f ∈ fs, ∃ i t, f = Value.int i t
  | _, _, _, .nil, .nil, _ => ⟨[], PySem.W.KatTups.nil, rfl, fun f hf => by cases hf⟩
  | _, _, x :: xs, .cons r rv, .cons a ra, h => by
    obtain ⟨fs, h1, h2, h3⟩ := kat_ints I rv ra fun y hy => h y (List.mem_cons_of_mem _ hy)
    have hx := h x List.mem_cons_self
    cases x <;> first | (cases hx; done) | skip
    obtain ⟨i, zt, rfl⟩ := headInt_inv hx
    cases a with
    | tup g1 g2 =>
      cases r
      obtain ⟨its, q1, p1, _⟩ := I.tuple (SqT.of g1)
      cases g2 with
      | cons c d =>
        cases c
        cases q1 with
        | cons e f =>
          obtain ⟨t, rfl⟩ := e
          obtain ⟨o, ho, hc, n, hd⟩ := p1
          refine ⟨.int i t :: fs, PySem.W.KatTups.cons ho hc hd (by simp) h1, by simp [h2], fun g hg => ?_⟩
          rcases List.mem_cons.mp hg with rfl | hg
          · exact ⟨i, t, rfl⟩
          · exact h3 g hg
theorem kat_tups (I : Inv X pins σ H s) : ∀ {vs : List Value} {ws : List V} {xs : List PV}, Vals ws vs → RepA X.K H ws xs → (∀ x ∈ xs, headTup x = true) → ∃ fs, PySem.W.KatTups s.heap vs fs ∧ fs.length = vs.length ∧ ∀ f ∈ fs, ∃ a o, f = Value.ref a ∧ s.heap.get? a = some o ∧ o.cls = .type "tuple"
  | _, _, _, .nil, .nil, _ => ⟨[], PySem.W.KatTups.nil, rfl, fun f hf => by cases hf⟩
  | _, _, x :: xs, .cons r rv, .cons a ra, h => by
    obtain ⟨fs, h1, h2, h3⟩ := kat_tups I rv ra fun y hy => h y (List.mem_cons_of_mem _ hy)
    have hx := h x List.mem_cons_self
    cases x <;> first | (cases hx; done) | skip
    obtain ⟨i, zt, rfl⟩ := headTup_inv hx
    cases a with
    | tup g1 g2 =>
      cases r
      obtain ⟨its, q1, p1, _⟩ := I.tuple (SqT.of g1)
      cases g2 with
      | cons c d =>
        cases c with
        | tup k1 k2 =>
          cases q1 with
          | cons e f =>
            cases (show _ = Value.ref _ from e)
            obtain ⟨o, ho, hc, n, hd⟩ := p1
            obtain ⟨its', q2, ⟨o', ho', hc', _⟩, _⟩ := I.tuple (SqT.of k1)
            have hk := PySem.W.KatTups.cons ho hc hd rfl h1
            refine ⟨_, hk, by simp [h2], fun g hg => ?_⟩
            rcases List.mem_cons.mp hg with hg | hg
            · exact ⟨_, o', hg, ho', hc'⟩
            · exact h3 g hg
theorem firsts_of (I : Inv X pins σ H s) : ∀ {vs : List Value} {ws : List V} {xs : List PV}, Vals ws vs → RepA X.K H ws xs → (∀ x ∈ xs, ∃ ys, x = .tup ys) → ∃ fs, FirstsO s.heap vs fs ∧ ((∃ x ∈ xs, isEmpT x = true) → fs.all (·.isSome) = false)
  | _, _, _, .nil, .nil, _ => ⟨[], trivial, fun ⟨x, hx, _⟩ => by cases hx⟩
  | _, _, x :: xs, .cons r rv, .cons a ra, h => by
    obtain ⟨fs, h1, h2⟩ := firsts_of I rv ra fun y hy => h y (List.mem_cons_of_mem _ hy)
    obtain ⟨zs, rfl⟩ := h x List.mem_cons_self
    cases a with
    | tup g1 g2 =>
      cases r
      obtain ⟨its, q1, p1, _⟩ := I.tuple (SqT.of g1)
      obtain ⟨o, ho, hc, n, hd⟩ := p1
      refine ⟨its.toArray[0]? :: fs, ⟨⟨_, o, its.toArray, n, rfl, ho, hc, hd, rfl⟩, h1⟩, fun ⟨y, hy, hy2⟩ => ?_⟩
      rcases List.mem_cons.mp hy with rfl | hy
      · cases zs with
        | nil =>
          cases g2
          cases q1
          rfl
        | cons z zs => cases hy2
      · rw [List.all_cons, h2 ⟨y, hy, hy2⟩, Bool.and_false]
theorem tups_sortable (I : Inv X pins σ H s) (hu : A.units + 76 < cLine) {vs : List Value} {ws : List V} {xs : List PV} (rv : Vals ws vs) (ra : RepA X.K H ws xs) (T : TupsOk xs) {k : V → Tr} (hk : ∀ (j : Nat) (w : V) (x : PV), ws[j]? = some w → xs[j]? = some x → k w = tr x) (h2 : 2 ≤ vs.length)
    {h₁ : Heap} {a : Addr} (kk : ∀ b o, s.heap.get? b = some o → b ≠ a ∧ h₁.get? b = some o) : SrtO.SortableO X.prog X.w A { s with heap := h₁ } a vs (fun v u => ltTr (k (backV v)) (k (backV u))) := by
  intro h' keep
  have I' : Inv X pins σ H { s with heap := h' } := I.kept (t' := s.toks) fun b o e => keep b o (kk b o e).1 (kk b o e).2
  rcases T.head with hi | ht | he
  · obtain ⟨fs, f1, f2, f3⟩ := kat_ints I' rv ra hi
    refine ⟨PyProof.Rows.tuples' true, fun Q E hq => ?_, tups_cmp I' hu rv ra T hk (.inr (.inr (.inr ⟨rfl, hi⟩)))⟩
    refine PySem.W.kat_kind (T := .type "int") f1 (by omega) (fun f hm => ?_) (by rfl) ?_
    · obtain ⟨x, t, rfl⟩ := f3 f hm
      exact PySem.W.Looks.now
    · have e : (Value.type "int" != Value.type "tuple") = true := by first | decide +kernel | rfl | decide
      rw [e]
      exact hq
  · obtain ⟨fs, f1, f2, f3⟩ := kat_tups I' rv ra ht
    refine ⟨PyProof.Rows.tuples' false, fun Q E hq => ?_, tups_cmp I' hu rv ra T hk (.inr (.inr (.inl rfl)))⟩
    refine PySem.W.kat_kind (T := .type "tuple") f1 (by omega) (fun f hm => ?_) (by rfl) ?_
    · obtain ⟨x, o, rfl, ho, hc⟩ := f3 f hm
      rw [← hc]
      exact (show PySem.W.Looks _ h' (typeOf (.ref x)) o.cls from (PySem.W.Looks.ld ho).andThen .now)
    · have e : (Value.type "tuple" != Value.type "tuple") = false := by first | decide +kernel | rfl | decide
      rw [e]
      exact hq
  · obtain ⟨fs, f1, f2⟩ := firsts_of I' rv ra T.tup
    refine ⟨if (fs.toArray[0]?.bind id).isSome = true then PyProof.Rows.general' else PyProof.Rows.oneType', fun Q E hq => kind_mixed (by omega) f1 (f2 he) hq, ?_⟩
    split
    · exact tups_cmp I' hu rv ra T hk (.inl rfl)
    · exact tups_cmp I' hu rv ra T hk (.inr (.inl rfl))
end
/-- sorted(x), x a list of tuples -/
def rSortedV (K : PySem.W.Frag) : List V → Hp → VK → Prop := fun vs H Q => ∃ (a : Addr) (ws : List V) (xs : List PV), vs = [.ref a] ∧ SqL K H a ws ∧ RepA K H ws xs ∧ tupsOk xs = true ∧ ∀ p zs, H p = none → RepA K H zs (srtP xs) → Q (.ref p) (upd H p (.lst zs))
section
variable {X : Cx}
theorem ref_inj {a b : Addr} (h : backV (.ref a) = .ref b) : a = b := by injection h
theorem cr_sortedV (hu : X.A.units + 80 < cLine) : CallR X (.builtin "sorted") (rSortedV X.K) := by
  intro pins s σ H vs us Q I r h
  obtain ⟨a, ws, xs, rfl, hs, ra, ok, q⟩ := h
  have T := tupsOk_of ok
  obtain ⟨its, rv, hl, hz⟩ := I.list hs
  rw [Vals.ref1 r]
  have refs : ∀ w ∈ ws, ∃ b, w = V.ref b := fun w hw => by
    obtain ⟨j, hj⟩ := List.mem_iff_getElem?.mp hw
    obtain ⟨x, x1, x2⟩ := ra.get hj
    obtain ⟨zs, rfl⟩ := T.tup x (List.mem_of_getElem? x1)
    obtain ⟨b, _, e, _⟩ := RT.tup (.inl x2)
    exact ⟨b, e⟩
  obtain ⟨e1, e2⟩ := refs_back rv refs
  obtain ⟨f, hf⟩ : ∃ f : V → PV, ∀ (j : Nat) (w : V) (x : PV), ws[j]? = some w → xs[j]? = some x → f w = x := by
    classical
    refine ⟨fun w => if h : ∃ x, Rep X.K H w x ∧ pureP x = true then Classical.choose h else .non, fun j w x h1 h2 => ?_⟩
    obtain ⟨x', h3, h4⟩ := ra.get h1
    rw [h2] at h3
    cases h3
    have px := T.pure x (List.mem_of_getElem? h2)
    have ex : ∃ x, Rep X.K H w x ∧ pureP x = true := ⟨x, h4, px⟩
    show (if h : ∃ x, Rep X.K H w x ∧ pureP x = true then Classical.choose h else .non) = x
    rw [dif_pos ex]
    have sp := Classical.choose_spec ex
    exact rep_uniq sp.2 px sp.1 h4
  have fmap : ws.map f = xs := by
    apply List.ext_getElem?
    intro j
    rw [List.getElem?_map]
    cases hw : ws[j]? with
    | none =>
      have : ws.length ≤ j := List.getElem?_eq_none_iff.mp hw
      rw [List.getElem?_eq_none (by rw [← ra.length]; exact this)]
      rfl
    | some w =>
      obtain ⟨x, x1, _⟩ := ra.get hw
      rw [x1]
      exact congrArg some (hf j w x hw x1)
  have frep : ∀ w ∈ ws, Rep X.K H w (f w) := fun w hw => by
    obtain ⟨j, hj⟩ := List.mem_iff_getElem?.mp hw
    obtain ⟨x, x1, x2⟩ := ra.get hj
    rw [hf j w x hj x1]
    exact x2
  refine SrtO.sorted_ord (ltv := fun v u => ltTr (tr (f (backV v))) (tr (f (backV u)))) ⟨fun x y => swoTr.asym _ _, fun x y z => swoTr.tr _ _ _⟩ hl.isList (by rw [← rv.length]; exact hz)
    (fun h2 h₁ a' _ kk => tups_sortable (k := fun w => tr (f w)) I (by show X.A.units + 1 + 1 + 76 < cLine; omega) rv ra T (fun j w x h3 h4 => by rw [hf j w x h3 h4]) h2 kk) fun out h1 h2 => ?_
  obtain ⟨ep, he'⟩ := PyProof.Rows.sortedAll_at s.heap its out.toArray
  have pm := h2.perm
  have outr : ∀ u ∈ out, ∃ b, u = Value.ref b := fun u hu => e2 u (pm.mem_iff.mp hu)
  have vout : Vals (out.map backV) out := by
    clear he' h1 h2 pm
    induction out with
    | nil => exact .nil
    | cons u us ih =>
      obtain ⟨b, rfl⟩ := outr u List.mem_cons_self
      exact .cons rfl (ih fun v hv => outr v (List.mem_cons_of_mem _ hv))
  have pm2 : (out.map backV).Perm ws := by rw [e1]; exact pm.map backV
  have ro : RepA X.K H (out.map backV) ((out.map backV).map f) := by
    have : ∀ l : List V, (∀ w ∈ l, w ∈ ws) → RepA X.K H l (l.map f) := by
      intro l
      induction l with
      | nil => intro _; exact .nil
      | cons w l ih => intro hm; exact .cons (frep w (hm w List.mem_cons_self)) (ih fun v hv => hm v (List.mem_cons_of_mem _ hv))
    exact this _ fun w hw => pm2.mem_iff.mp hw
  have eq : (out.map backV).map f = srtP xs := by
    have p3 : ((out.map backV).map f).Perm xs := by rw [← fmap]; exact pm2.map f
    refine srtd_uniq (fun x hx => T.pure x (p3.mem_iff.mp hx)) ?_ (srtP_srtd xs) (p3.trans (srtP_perm xs).symm)
    rw [List.map_map]
    exact List.pairwise_map.mpr h1
  rw [eq] at ro
  have hlen : (out.map backV).length ≤ sizeLine := by rw [pm2.length_eq]; exact hz
  exact ⟨.ref _, upd H (s.heap.objs.size + 1) (.lst (out.map backV)), I.laid (t' := s.toks) (fun _ _ => PyProof.Rows.sortedAll_old) (Nat.le_succ _) ⟨hlen, out, ep, vout, he'⟩, rfl, q _ _ (I.hok.fresh (Nat.le_succ _)) ro⟩
def sSorted : List PV → Option PV
  | [.lst xs] => if (intsOf xs).isSome = true ∨ tupsOk xs = true then some (.lst (srtP xs)) else none
  | _ => none
theorem pure_ints (ns : List Int) : ∀ x ∈ ns.map PV.int, pureP x = true := fun x hx => by
  obtain ⟨n, _, rfl⟩ := List.mem_map.mp hx
  rfl
theorem s_sorted : SemA X OutL (fun vs H Q => rSortedI X.K vs H Q ∨ rSortedV X.K vs H Q) sSorted := by
  intro H vs ps z Q h e o
  unfold sSorted at e
  split at e
  · rename_i xs
    obtain ⟨v, rfl, h1⟩ := rts1 h
    obtain ⟨a, ws, rfl, h2, r⟩ := h1.lst
    split at e
    · rename_i hc
      cases e
      cases hi : intsOf xs with
      | some ns =>
        have e2 := intsOf_eq hi
        subst e2
        refine .inl ⟨a, ns, rfl, by rw [r.ints] at h2; exact h2, fun ns' p pm so hp => ?_⟩
        have sm := same_upd (u := .lst (ns'.map V.int)) hp
        have eq : ns'.map PV.int = srtP (ns.map PV.int) := by
          refine srtd_uniq (pure_ints ns') ?_ (srtP_srtd _) ((pm.map PV.int).trans (srtP_perm _).symm)
          refine List.pairwise_map.mpr (so.imp fun {a b} hab => ?_)
          show ltTr (.lf b) (.lf a) = false
          simp [ltTr]
          exact hab
        refine o p _ _ hp upd_same ?_ sm
        rw [← eq]
        exact RepA.of_ints ns'
      | none =>
        have ht : tupsOk xs = true := by
          rcases hc with hc | hc
          · rw [hi] at hc; cases hc
          · exact hc
        exact .inr ⟨a, ws, xs, rfl, h2, r, ht, fun p zs hp rz => o p _ _ hp upd_same (RepA.ext (Ext.of_same (same_upd hp)) rz) (same_upd hp)⟩
    · cases e
  · cases e
theorem call_sorted (hu : X.A.units + 80 < cLine) : CallR X (.builtin "sorted") (fun vs H Q => rSortedI X.K vs H Q ∨ rSortedV X.K vs H Q) := by
  intro pins s σ H vs us Q I r h
  rcases h with h | h
  · exact cr_sortedI pins s σ H vs us Q I r h
  · exact cr_sortedV hu pins s σ H vs us Q I r h
end
end VL

set_option Elab.async false
set_option linter.all false
set_option autoImplicit false
set_option maxRecDepth 100000
set_option maxHeartbeats 4000000
/-! VSR: sorted(set(x)), x a list of tuples of ints of any lengths. -/
namespace VL
open PySem L2
open PyProof.Rows (kind_sorted plain_sorted entry_sorted args_sorted1 slot_list_sort entry_list_sort args_list_sort sortedHeap sortedHeap_at sortedHeap_old seqObj size_push')

abbrev tupI (k : List Int) : PV := .tup (k.map .int)
def flatP : PV → Option (List Int)
  | .tup xs => intsOf xs
  | _ => none
def flatsP : List PV → Option (List (List Int))
  | [] => some []
  | x :: xs => match flatP x, flatsP xs with
    | some k, some ks => some (k :: ks)
    | _, _ => none
theorem flatsP_eq : ∀ {xs : List PV} {ks : List (List Int)}, flatsP xs = some ks → xs = ks.map tupI
  | [], ks, e => by cases e; rfl
  | x :: xs, ks, e => by
    unfold flatsP at e
    split at e
    · rename_i k ks' h1 h2
      cases e
      rw [List.map_cons, ← flatsP_eq h2]
      cases x <;> first | (cases h1; done) | skip
      exact congrArg (· :: xs) (congrArg PV.tup (intsOf_eq h1))
    · cases e
def nubK : List (List Int) → List (List Int)
  | [] => []
  | k :: ks => if k ∈ nubK ks then nubK ks else k :: nubK ks
theorem nubK_mem {k : List Int} : ∀ {ks : List (List Int)}, k ∈ nubK ks ↔ k ∈ ks
  | [] => Iff.rfl
  | j :: ks => by
    unfold nubK
    split
    · rename_i h
      rw [nubK_mem, List.mem_cons]
      exact ⟨.inr, fun z => z.elim (fun e => nubK_mem.mp (e ▸ h)) id⟩
    · rw [List.mem_cons, List.mem_cons, nubK_mem]
theorem nubK_nodup : ∀ (ks : List (List Int)), (nubK ks).Nodup
  | [] => .nil
  | k :: ks => by
    unfold nubK
    split
    · exact nubK_nodup ks
    · exact List.nodup_cons.mpr ⟨by assumption, nubK_nodup ks⟩
theorem pick_of {K : PySem.W.Frag} {H : Hp} {ws : List V} {xs : List PV} (ra : RepA K H ws xs) (hp : ∀ x ∈ xs, pureP x = true) : ∃ f : V → PV, ∀ (j : Nat) (w : V) (x : PV), ws[j]? = some w → xs[j]? = some x → f w = x := by
  classical
  refine ⟨fun w => if h : ∃ x, Rep K H w x ∧ pureP x = true then Classical.choose h else .non, fun j w x h1 h2 => ?_⟩
  obtain ⟨x', h3, h4⟩ := ra.get h1
  rw [h2] at h3
  cases h3
  have px := hp x (List.mem_of_getElem? h2)
  have ex : ∃ x, Rep K H w x ∧ pureP x = true := ⟨x, h4, px⟩
  show (if h : ∃ x, Rep K H w x ∧ pureP x = true then Classical.choose h else .non) = x
  rw [dif_pos ex]
  have sp := Classical.choose_spec ex
  exact rep_uniq sp.2 px sp.1 h4
section
variable {X : Cx}
theorem pure_tupI (k : List Int) : pureP (tupI k) = true := by
  show pureAll (k.map PV.int) = true
  induction k with
  | nil => rfl
  | cons i k ih => show (pureP (.int i) && pureAll (k.map PV.int)) = true; rw [ih]; rfl
/-- sorted(set), the tuples of any lengths -/
def rSortedTV (K : PySem.W.Frag) (P : Program) (w : World) : List V → Hp → VK → Prop := fun vs H Q => ∃ (a : Addr) (L : List (Addr × List Int)), vs = [V.ref a] ∧ H a = some (SetTO P w a L) ∧ (∀ p ∈ L, Rep K H (.ref p.1) (tupI p.2)) ∧ TupsOk (L.map fun p => tupI p.2) ∧
  ∀ p zs, (L.map (·.2)).Nodup → H p = none → RepA K H zs (srtP (L.map fun p => tupI p.2)) → Q (.ref p) (upd H p (.lst zs))
theorem repA_L {K : PySem.W.Frag} {H : Hp} : ∀ {L : List (Addr × List Int)}, (∀ p ∈ L, Rep K H (.ref p.1) (tupI p.2)) → RepA K H (L.map fun p => V.ref p.1) (L.map fun p => tupI p.2)
  | [], _ => .nil
  | p :: L, h => .cons (h p List.mem_cons_self) (repA_L fun q hq => h q (List.mem_cons_of_mem _ hq))
theorem sqT_rep {K : PySem.W.Frag} {H : Hp} {a : Addr} {k : List Int} (h : Rep K H (.ref a) (tupI k)) : SqT K H a (k.map V.int) := by
  cases h with
  | tup h1 h2 =>
    have e := h2.ints
    rw [e] at h1
    exact SqT.of h1
theorem cr_sortedTV (hc : X.calm = true) (hu : X.A.units + 80 < cLine) : CallR X (.builtin "sorted") (rSortedTV X.K X.prog X.w) := by
  intro pins s σ H vs us Q I r h
  obtain ⟨a, L, rfl, ha, hk, T, q⟩ := h
  have R0 : SetT0 X.prog X.w s.heap a L := (I.hok a _ ha).1
  obtain ⟨es, ep, t, R⟩ := R0.full fun p hp => I.isT (sqT_rep (hk p hp))
  rw [Vals.ref1 r]
  obtain ⟨o, ho, hex, hd⟩ := R.ob
  have hsz := R.size
  have hfew := R.few
  have raL := repA_L hk
  obtain ⟨f, hf⟩ := pick_of raL T.pure
  refine Calls.call_function_entry kind_sorted plain_sorted entry_sorted (args_sorted1 _) ?_
  unfold Builtin.«sorted»
  refine wpAny_bind (m := checkCount "sorted" 1 1 _) (wpAny_pure ?_)
  refine wpAny_bind (collect_set (A := X.A.in1) (I.ok.hd hc) ⟨o, ho, hex.1, hd⟩ R.fits (by unfold scanBound; omega) R.tab.ris R.led fun s1 vs k1 hz g1 o1 pm => ?_)
  have hes : es.toList.map (·.2) = L.map fun q => Value.ref q.1 := by
    rw [R.rows]
    unfold rowsOf
    rw [List.map_map] <;> rfl
  rw [hes] at pm
  have ord : ∀ vs : List Value, (∀ v ∈ vs, ∃ q ∈ L, v = Value.ref q.1) → ∃ L1 : List (Addr × List Int), vs = L1.map (fun q => Value.ref q.1) ∧ ∀ q ∈ L1, q ∈ L := by
    intro vs
    induction vs with
    | nil => intro _; exact ⟨[], rfl, fun q hq => (by cases hq)⟩
    | cons v vs ih =>
      intro hv
      obtain ⟨q, hq, e⟩ := hv v List.mem_cons_self
      obtain ⟨L1, e1, hs⟩ := ih fun u hu => hv u (List.mem_cons_of_mem _ hu)
      refine ⟨q :: L1, by rw [List.map_cons, e, e1], fun r hr => ?_⟩
      rcases List.mem_cons.mp hr with z | z
      · rw [z]; exact hq
      · exact hs r z
  have one : ∀ q ∈ L, ∀ r ∈ L, q.1 = r.1 → q = r := fun q hq r hr e => by
    have a1 := R.tup q hq
    have a2 := R.tup r hr
    rw [e] at a1
    have e2 : q.2 = r.2 := a1.inj a2
    exact Prod.ext e e2
  have perm_of : ∀ L1 : List (Addr × List Int), (∀ q ∈ L1, q ∈ L) → (L1.map (fun q => Value.ref q.1)).Perm (L.map fun q => Value.ref q.1) → L1.Perm L := by
    intro L1 hs pm1
    have nL : L.Nodup := nodup_of_map R.nd
    have nref : (L.map fun q => Value.ref q.1).Nodup := by
      refine List.pairwise_map.mpr (List.Pairwise.imp_of_mem (fun {q r} hq hr hne e => ?_) nL)
      injection e with e
      exact hne (one q hq r hr e)
    have n1 : L1.Nodup := nodup_of_map (pm1.nodup_iff.mpr nref)
    refine (List.perm_ext_iff_of_nodup n1 nL).mpr fun q => ⟨hs q, fun hq => ?_⟩
    have hm : Value.ref q.1 ∈ L1.map (fun q => Value.ref q.1) := pm1.mem_iff.mpr (List.mem_map.mpr ⟨q, hq, rfl⟩)
    obtain ⟨r, hr, e⟩ := List.mem_map.mp hm
    injection e with e
    rw [← one r (hs r hr) q hq e]
    exact hr
  have fL : ∀ q ∈ L, f (.ref q.1) = tupI q.2 := fun q hq => by
    obtain ⟨j, hj⟩ := List.mem_iff_getElem?.mp hq
    exact hf j _ _ (by rw [List.getElem?_map, hj]; rfl) (by rw [List.getElem?_map, hj]; rfl)
  obtain ⟨L1, e1, hs1⟩ := ord vs fun v hv => by
    obtain ⟨q, hq, e⟩ := List.mem_map.mp (pm.mem_iff.mp hv)
    exact ⟨q, hq, e.symm⟩
  have pL1 : L1.Perm L := perm_of L1 hs1 (by rw [← e1]; exact pm)
  have hvl : vs.length < 64 := by rw [pm.length_eq, List.length_map]; exact hfew
  have I1 : Inv X pins σ H s1 := I.call' (ch := []) o1 (Un.kept k1) (I.hok.kept k1) (by rw [g1]; exact I.bare) fun b z => by simp at z
  refine wpAny_bind (wpAny_newList ?_ (by rw [sizeLine_eq]; omega))
  have hoL : (s1.heap.push (seqObj "list" vs.toArray 0)).get? s1.heap.objs.size = some (seqObj "list" vs.toArray 0) := Heap.get?_push_size _ rfl
  have keep : ∀ b o, s1.heap.get? b = some o → b ≠ s1.heap.objs.size ∧ (s1.heap.push (seqObj "list" vs.toArray 0)).get? b = some o := fun b o e => ⟨Nat.ne_of_lt (Heap.lt_size e), Heap.get?_push_of_some _ e⟩
  have rv1 : Vals (L1.map fun p => V.ref p.1) vs := by rw [e1]; exact vals_of_refs L1
  have hk1 : ∀ p ∈ L1, Rep X.K H (.ref p.1) (tupI p.2) := fun p hp => hk p (hs1 p hp)
  have mem1 : ∀ x ∈ L1.map (fun p => tupI p.2), x ∈ L.map fun p => tupI p.2 := fun x hx => (pL1.map fun p => tupI p.2).mem_iff.mp hx
  have T1 : TupsOk (L1.map fun p => tupI p.2) := ⟨fun x hx => T.tup x (mem1 x hx), fun x hx => T.pure x (mem1 x hx), fun x hx => T.ok x (mem1 x hx), fun x hx y hy => T.cmp x (mem1 x hx) y (mem1 y hy),
    T.head.imp (fun h x hx => h x (mem1 x hx)) (Or.imp (fun h x hx => h x (mem1 x hx)) fun ⟨x, hx, h⟩ => ⟨x, (pL1.map fun p => tupI p.2).mem_iff.mpr hx, h⟩)⟩
  refine wpAny_bind (wpAny_holding (wpAny_call_entry slot_list_sort ⟨_, hoL, rfl⟩ entry_list_sort (SrtO.list_sort_ord (ltv := fun v u => ltTr (tr (f (backV v))) (tr (f (backV u)))) (s := { s1 with heap := s1.heap.push (seqObj "list" vs.toArray 0) }) ⟨fun x y => swoTr.asym _ _, fun x y z => swoTr.tr _ _ _⟩ hoL (by rw [sizeLine_eq]; omega)
    (fun h2 => tups_sortable (k := fun w => tr (f w)) I1 (by show X.A.units + 1 + 1 + 76 < cLine; omega) rv1 (repA_L hk1) T1 (fun j w x h3 h4 => ?_) h2 keep) fun out h1 h2 => ⟨_, rfl, ?_⟩) (args_list_sort _)))
  · rw [List.getElem?_map] at h3 h4
    obtain ⟨q1, z1, z2⟩ := Option.map_eq_some_iff.mp h3
    rw [z1] at h4
    cases h4
    rw [← z2, fL q1 (hs1 q1 (List.mem_of_getElem? z1))]
  · obtain ⟨c, hcc⟩ := sortedHeap_at (vs := vs) (out := out.toArray) hoL
    have pmo := h2.perm
    obtain ⟨L', e', hs'⟩ := ord out fun v hv => by
      obtain ⟨q, hq, e⟩ := List.mem_map.mp (pm.mem_iff.mp (pmo.mem_iff.mp hv))
      exact ⟨q, hq, e.symm⟩
    have pL : L'.Perm L := perm_of L' hs' (by rw [← e']; exact pmo.trans pm)
    have k2 : ∀ b u, s1.heap.get? b = some u → (sortedHeap (s1.heap.push (seqObj "list" vs.toArray 0)) s1.heap.objs.size vs out.toArray).get? b = some u := fun b u q => by
      have hlt := Heap.lt_size q
      rw [sortedHeap_old (Nat.ne_of_lt hlt) (by rw [size_push']; exact Nat.lt_succ_of_lt hlt)]
      exact Heap.get?_push_of_some _ q
    have hlen : (L'.map fun q => V.ref q.1).length ≤ sizeLine := by
      rw [List.length_map, pL.length_eq, sizeLine_eq]
      omega
    have hv : Vals (L'.map fun q => V.ref q.1) out := by rw [e']; exact vals_of_refs L'
    have eqs : (L'.map fun p => tupI p.2) = srtP (L.map fun p => tupI p.2) := by
      refine srtd_uniq (fun x hx => ?_) ?_ (srtP_srtd _) ((pL.map _).trans (srtP_perm _).symm)
      · obtain ⟨q1, _, z⟩ := List.mem_map.mp hx
        rw [← z]
        exact pure_tupI _
      · rw [e'] at h1
        refine List.pairwise_map.mpr (List.Pairwise.imp_of_mem (fun {q1 q2} m1 m2 hle => ?_) (List.pairwise_map.mp h1))
        show ltTr (tr (tupI q2.2)) (tr (tupI q1.2)) = false
        rw [← fL q2 (hs' q2 m2), ← fL q1 (hs' q1 m1)]
        exact hle
    refine wpAny_pure ⟨_, rfl, .ref s1.heap.objs.size, upd H s1.heap.objs.size (.lst (L'.map fun q => V.ref q.1)), I1.laid (t' := s1.toks) k2 (Nat.le_refl _) ⟨hlen, out, c, hv, hcc⟩, rfl, q _ _ R.nd (I1.hok.fresh (Nat.le_refl _)) ?_⟩
    rw [← eqs]
    exact repA_L fun p hp => hk p (hs' p hp)
/-- sorted(set(x)) -/
def rSortedSetV (K : PySem.W.Frag) (P : Program) (w : World) : List V → Hp → VK → Prop := fun vs H Q => rSetOfT K P w vs H fun v H1 => rSortedTV K P w [v] H1 Q
def sSortedSet : List PV → Option PV
  | [.lst xs] => (match flatsP xs with
    | some ks => if ks.length < 64 ∧ tupsOk ((nubK ks).map tupI) = true then some (.lst (srtP ((nubK ks).map tupI))) else none
    | none => none)
  | _ => none
theorem s_sortedSet : SemA X OutL (rSortedSetV X.K X.prog X.w) sSortedSet := by
  intro H vs ps z Q h e o
  unfold sSortedSet at e
  split at e
  · rename_i xs
    obtain ⟨v, rfl, h1⟩ := rts1 h
    obtain ⟨a, ws, rfl, h2, r⟩ := h1.lst
    split at e
    · rename_i ks hks
      split at e
      · rename_i hcond
        cases e
        obtain ⟨hlen, htok⟩ := hcond
        have ex := flatsP_eq hks
        subst ex
        -- the addresses
        have adr : ∀ (ws : List V) (ks : List (List Int)), RepA X.K H ws (ks.map tupI) → ∃ l : List (Addr × List Int), ws = l.map (fun p => V.ref p.1) ∧ ks = l.map (·.2) ∧ ∀ p ∈ l, Rep X.K H (.ref p.1) (tupI p.2) := by
          intro ws ks
          induction ks generalizing ws with
          | nil => intro ra; cases ra; exact ⟨[], rfl, rfl, fun p hp => by cases hp⟩
          | cons k ks ih =>
            intro ra
            cases ra with
            | cons b c =>
              obtain ⟨l, e1, e2, e3⟩ := ih _ c
              cases b with
              | @tup ad _ _ b1 b2 =>
                refine ⟨(ad, k) :: l, by rw [e1]; rfl, by rw [e2]; rfl, fun p hp => ?_⟩
                rcases List.mem_cons.mp hp with hp | hp
                · rw [hp]; exact .tup b1 b2
                · exact e3 p hp
        obtain ⟨l, e1, e2, e3⟩ := adr ws ks r
        subst e1
        refine ⟨a, l, rfl, h2, fun p hp => sqT_rep (e3 p hp), by rw [e2, List.length_map] at hlen; exact hlen, fun b L hb hL1 hL2 => ?_⟩
        have pmk : (L.map (·.2)).Nodup → (L.map (·.2)).Perm (nubK (l.map (·.2))) := fun nd => by
          refine (List.perm_ext_iff_of_nodup nd (nubK_nodup _)).mpr fun k => ?_
          rw [nubK_mem]
          constructor
          · intro hm
            obtain ⟨p, hp, e⟩ := List.mem_map.mp hm
            exact List.mem_map.mpr ⟨p, hL1 p hp, e⟩
          · intro hm
            obtain ⟨p, hp, e⟩ := List.mem_map.mp hm
            rw [← e]
            exact hL2 p hp
        have emap : L.map (fun p => tupI p.2) = (L.map (·.2)).map tupI := by rw [List.map_map]; rfl
        have mem : ∀ x, x ∈ L.map (fun p => tupI p.2) ↔ x ∈ (nubK ks).map tupI := fun x => by
          rw [emap, List.mem_map, List.mem_map, e2]
          refine ⟨fun ⟨k, h1, h2⟩ => ⟨k, ?_, h2⟩, fun ⟨k, h1, h2⟩ => ⟨k, ?_, h2⟩⟩
          · rw [nubK_mem]
            obtain ⟨p, hp, e⟩ := List.mem_map.mp h1
            exact List.mem_map.mpr ⟨p, hL1 p hp, e⟩
          · rw [nubK_mem] at h1
            obtain ⟨p, hp, e⟩ := List.mem_map.mp h1
            rw [← e]
            exact hL2 p hp
        have T := tupsOk_of htok
        have T1 : TupsOk (L.map fun p => tupI p.2) := ⟨fun x hx => T.tup x ((mem x).mp hx), fun x hx => T.pure x ((mem x).mp hx), fun x hx => T.ok x ((mem x).mp hx), fun x hx y hy => T.cmp x ((mem x).mp hx) y ((mem y).mp hy),
          T.head.imp (fun h x hx => h x ((mem x).mp hx)) (Or.imp (fun h x hx => h x ((mem x).mp hx)) fun ⟨x, hx, h⟩ => ⟨x, (mem x).mpr hx, h⟩)⟩
        refine ⟨b, L, rfl, upd_same, fun p hp => (e3 p (hL1 p hp)).ext (Ext.of_same (same_upd hb)), T1, fun p zs nd hp rz => ?_⟩
        have pm := pmk nd
        have eq : srtP (L.map fun p => tupI p.2) = srtP ((nubK ks).map tupI) := by
          refine srtd_uniq (fun x hx => T1.pure x ((srtP_perm _).mem_iff.mp hx)) (srtP_srtd _) (srtP_srtd _) ((srtP_perm _).trans (List.Perm.trans ?_ (srtP_perm _).symm))
          rw [emap, e2]
          exact pm.map tupI
        rw [eq] at rz
        have sm := same_upd (u := HO.lst zs) hp
        exact o p _ _ (by
          cases hh : H p with
          | none => rfl
          | some u => rw [same_upd hb p u hh] at hp; cases hp) upd_same (RepA.ext (Ext.of_same sm) rz) fun b' u hu => sm b' u (same_upd hb b' u hu)
      · cases e
    · cases e
  · cases e
theorem pe_ss {p p2 pos pos2 : Pos} {e : Expr} {t : TA} (hc : X.calm = true) (hu : X.A.units + 80 < cLine) (hg : Gl X "sorted") (hm : X.mg "sorted" = none) (hg2 : Gl X "set") (hm2 : X.mg "set" = none) (ha : PA X [e] t)
    (he : starEach [e] X.env = (false, eval e X.env) :: starEach [] X.env) (hpl2 : (backTo pos2 (starEach [] X.env)).any (·.1) = false)
    (he2 : starEach [.Call (.Name "set" p2) [e] [] pos2] X.env = (false, eval (.Call (.Name "set" p2) [e] [] pos2) X.env) :: starEach [] X.env) (hpl : (backTo pos (starEach [] X.env)).any (·.1) = false) :
    PE X (.Call (.Name "sorted" p) [.Call (.Name "set" p2) [e] [] pos2] [] pos) (fun σ H Q => t σ H fun vs H1 => rSortedSetV X.K X.prog X.w vs H1 Q) := by
  refine PE.imp (pe_callB (cr_sortedTV hc hu) hg hm (by decide +kernel) (pa_cons (pe_callTy (cr_setOfT hc (by omega)) hg2 hm2 (by decide +kernel) ha (by decide) (by decide) he hpl2) pa_nil he2) (by decide) (by decide) he2 hpl) fun σ H Q h => ?_
  exact h
end
end VL

set_option Elab.async false
set_option linter.all false
set_option autoImplicit false
set_option maxRecDepth 100000
set_option maxHeartbeats 4000000
/-! VT: enumerate over a tuple; tuple(range(..)), list(range(..)); words in short. -/
namespace VL
open PySem L2
open PyProof.Rows (Call_ boot_enumerate)

theorem meets_enumT (l : Addr) (items : Array Value) (n : Nat) (dct : Option Addr) (sl : Array (Option Value)) :
    Meets (Builtin.«enumerate.__new__» ⟨[.type "enumerate", .ref l], []⟩) (fun _ R s => s.heap.get? l = some { cls := .type "tuple", dict := dct, data := .seq items n, slots := sl } ∧
      R (.ok (.ret (.ref (s.heap.push { cls := .type "tuple_iterator", data := .fields #[.ref l, .int 0 0] }).objs.size)))
        { s with heap := (s.heap.push { cls := .type "tuple_iterator", data := .fields #[.ref l, .int 0 0] }).push { cls := .type "enumerate", data := .fields #[.none, .bool false, .ref s.heap.objs.size, rawInt 0, .none, .none] } }) :=
  .of_wp fun prog w A R s h => by
    obtain ⟨hp, g, d, tk, os⟩ := s; obtain ⟨hl, h⟩ := h
    have hsub := sub_enumerate
    have hL : Heap.IsTuple (Shared.heap ⟨hp, g, d, tk, os⟩) l items := ⟨_, hl, rfl, n, rfl⟩
    wp_walk using PySem.AutoSeq1.wpAny_loadPart' hl
    refine wpAny_stack_any fun st => wpAny_pure ?_
    split
    · rename_i c _ _ _ _ _
      cases (c == Value.type "enumerate")
      · wp_walk using PySem.AutoSeq1.wpAny_loadPart' hl, wpAny_pyIter_tuple hL
        exact ⟨_, rfl, h⟩
      · wp_walk using PySem.AutoSeq1.wpAny_loadPart' hl, wpAny_pyIter_tuple hL
        exact ⟨_, rfl, h⟩
    · wp_walk using PySem.AutoSeq1.wpAny_loadPart' hl, wpAny_pyIter_tuple hL
      exact ⟨_, rfl, h⟩
section
variable {prog : Program} {w : World} {A : Around} {E : Value → Shared → Prop} {s : Shared}
theorem call_enumT {l : Addr} {items : Array Value} {Q : Value → Shared → Prop} (hL : s.heap.IsTuple l items)
    (h : ∀ h', IsEnum h' (s.heap.objs.size + 1) s.heap.objs.size 0 .none → h'.IsTupleIter s.heap.objs.size l 0 → h'.objs.size = s.heap.objs.size + 2 →
      (∀ b o, s.heap.get? b = some o → h'.get? b = some o) → Q (.ref (s.heap.objs.size + 1)) { s with heap := h' }) :
    wpAny (model prog w) A (call (.type "enumerate") [.ref l]) Q E s := by
  obtain ⟨⟨c, dct, dt, sl⟩, hl, hc, n, hd⟩ := hL
  replace hc : c = .type "tuple" := hc
  replace hd : dt = .seq items n := hd
  subst hc hd
  refine callType_new F.called_enumerate (by decide) (F.typeCall_enumerate_1 _) (F.newCall_enumerate_1 _) (fun obj => F.args_object_init_2 obj _) F.entry_enumerate_new
    (meets_enumT l items n dct sl) ⟨hl, ?_⟩
  have hz : (s.heap.push { cls := .type "tuple_iterator", data := .fields #[.ref l, .int 0 0] }).objs.size = s.heap.objs.size + 1 := Heap.size_push ..
  show _ ∧ _
  rw [hz]
  have he : IsEnum ((s.heap.push { cls := .type "tuple_iterator", data := .fields #[.ref l, .int 0 0] }).push
      { cls := .type "enumerate", data := .fields #[.none, .bool false, .ref s.heap.objs.size, rawInt 0, .none, .none] }) (s.heap.objs.size + 1) s.heap.objs.size 0 .none := by
    have := Heap.get?_push_size (s.heap.push { cls := .type "tuple_iterator", data := .fields #[.ref l, .int 0 0] })
      (o := { cls := .type "enumerate", data := .fields #[.none, .bool false, .ref s.heap.objs.size, rawInt 0, .none, .none] }) rfl
    rw [hz] at this; exact this
  refine ⟨⟨_, he, rfl⟩, h _ he ⟨_, Heap.get?_push_of_some _ (Heap.get?_push_size _ rfl), rfl, rfl⟩ (by rw [Heap.size_push, hz]) fun b o x => Heap.get?_push_of_some _ (Heap.get?_push_of_some _ x)⟩
end
/-- the tuple at a, each item in a new pair -/
def IteT (K : PySem.W.Frag) (a : Addr) : It :=
  ⟨fun i H => ∃ (xs : List V) (x : V), SqT K H a xs ∧ xs[i]? = some x, fun i H v H' => ∃ T x, v = .ref T ∧ H T = none ∧ H' = upd H T (.tup [.int (i : Nat), x]) ∧ ∀ xs, SqT K H a xs → xs[i]? = some x, fun i H => ∃ xs : List V, SqT K H a xs ∧ i = xs.length⟩
theorem sqT_inj {X : Cx} {pins : List (Addr × Obj)} {σ : St} {H : Hp} {s : Shared} {a : Addr} {xs ys : List V} (I : Inv X pins σ H s) (h : SqT X.K H a xs) (k : SqT X.K H a ys) : xs = ys := I.tuple_inj h k
theorem turn_enumT {P : Program} {w : World} {K : PySem.W.Frag} {elts : List Expr} {kk : Nat} {tpos : Pos} (a e it : Addr) :
    Turn P w K (.Tuple elts kk tpos) (IteT K a) [e, it] e (fun i h => (∃ old, IsEnum h e it ((i : Nat) : Int) old) ∧ h.IsTupleIter it a i ∧ e ≠ it) where
  mem := by simp
  obj := fun i h st b hb => by
    obtain ⟨⟨old, he⟩, ⟨o, ho, hc, hd⟩, _⟩ := st
    have e' : b = e ∨ b = it := by simpa using hb
    rcases e' with z | z
    · rw [z]; exact ⟨_, he, fun v q => nomatch q⟩
    · rw [z]; exact ⟨o, ho, fun v q => by rw [hd] at q; cases q⟩
  keep := fun i h h' st k => let ⟨⟨old, he⟩, hi, hne⟩ := st; ⟨⟨old, k e (by simp) _ he⟩, hi.at fun o q => k it (by simp) o q, hne⟩
  item := by
    intro X hP hw hK hc i pins s σ H E I hf st hg
    subst hP hw hK
    obtain ⟨⟨old, he⟩, hit, hne⟩ := st
    obtain ⟨xs, x, hq, hx⟩ := hg
    obtain ⟨its, rv, p, hz⟩ := I.tuple hq
    obtain ⟨u, hu, ru⟩ := rv.get hx
    have hel : e < s.heap.objs.size := Heap.lt_size he
    have hil : it < s.heap.objs.size := by obtain ⟨_, q, _⟩ := hit; exact Heap.lt_size q
    have hal : a < s.heap.objs.size := by obtain ⟨_, q, _⟩ := p; exact Heap.lt_size q
    have ha1 : a ≠ it := fun z => by
      obtain ⟨o, q, c, _⟩ := p
      obtain ⟨o', q', c', _⟩ := hit
      rw [z, q'] at q
      cases q
      rw [c'] at c
      exact absurd (Value.type.inj c) (by decide)
    have ha2 : a ≠ e := fun z => by
      obtain ⟨o, q, c, _⟩ := p
      have he' := he
      rw [z] at q
      rw [he'] at q
      cases q
      exact absurd (Value.type.inj c) (by decide)
    have D := Draws.tuple (prog := X.prog) (w := X.w) (A := X.A.in1) (I.ok.hd hc) it a ha1 its.toArray
    refine wpAny_pyNext_enum_itemD D he ⟨hit, p⟩ (by rw [List.size_toArray, ← rv.length]; exact (List.getElem?_eq_some_iff.mp hx).1) hne (by simp [hne, Ne.symm ha2]) fun u' h' tk hu' ho st' hT hsz hk => ?_
    have eu : u' = u := by
      have z : its[i]? = some u' := by simpa using hu'
      rw [hu] at z
      exact (Option.some.inj z).symm
    subst eu
    refine ⟨_, rfl, wpAny_letOwnedTupleGo_enum (s := { s with heap := h', toks := tk + 1 }) ho fun h'' he' sb => ?_⟩
    have hT2 : h''.get? s.heap.objs.size = some { cls := .type "tuple", data := .seq #[.int i tk, u'] } := (sb.2 _ (Nat.ne_of_gt hel)).trans hT
    have new : ObjOk X.prog X.w (upd H s.heap.objs.size (.tup [.int (i : Nat), x])) h'' s.heap.objs.size (.tup [.int (i : Nat), x]) :=
      ⟨by show 2 ≤ sizeLine; decide, [.int i tk, u'], .cons ⟨_, rfl⟩ (.cons ru .nil), ⟨_, hT2, rfl, _, rfl⟩⟩
    have I1 : Inv X pins σ (upd H s.heap.objs.size (.tup [.int (i : Nat), x])) { s with heap := h'', toks := tk + 1 } :=
      I.turnedNew (ch := [e, it]) (fun b ob hb q => (sb.2 b (fun z => hb (by simp [z]))).trans (hk b ob (fun z => hb (by simp [z])) (fun z => hb (by simp [z])) q)) hf (Nat.le_refl _) new
    refine ⟨.ref s.heap.objs.size, _, I1, rfl, ⟨_, x, rfl, I.hok.fresh (Nat.le_refl _), rfl, fun ys hy => by rw [I.tuple_inj hy hq]; exact hx⟩, ⟨⟨u', ?_⟩, st'.1.at fun o q => (sb.2 it (Ne.symm hne)).trans q, hne⟩, fun b hb => ?_⟩
    · have e1 : ((i + 1 : Nat) : Int) = (i : Int) + 1 := by omega
      rw [e1]; exact he'
    · have hb' : b < s.heap.objs.size := by
        have e' : b = e ∨ b = it := by simpa using hb
        rcases e' with z | z
        · rw [z]; exact hel
        · rw [z]; exact hil
      rw [upd_ne (Nat.ne_of_lt hb')]
      exact (hf b hb).1
  done := by
    intro X hP hw hK hc i pins s σ H E I hf st hg
    subst hP hw hK
    obtain ⟨⟨old, he⟩, hit, hne⟩ := st
    obtain ⟨xs, hq, hx⟩ := hg
    obtain ⟨its, rv, p, hz⟩ := I.tuple hq
    obtain ⟨f0, f1, f2, f3, f4, f5⟩ := hf it (by simp)
    have hl := rv.length
    have ha1 : a ≠ it := fun z => by
      obtain ⟨o, q, c, _⟩ := p
      obtain ⟨o', q', c', _⟩ := hit
      rw [z, q'] at q
      cases q
      rw [c'] at c
      exact absurd (Value.type.inj c) (by decide)
    have D := Draws.tuple (prog := X.prog) (w := X.w) (A := X.A.in1) (I.ok.hd hc) it a ha1 its.toArray
    exact wpAny_pyNext_enum_endD D he ⟨by rw [List.size_toArray, ← hl, ← hx]; exact hit, p⟩ fun h' eb => ⟨rfl, I.turned (t' := s.toks) (fun b o hb q => eb b o hb q) f0 f1 f3 f4 f5⟩
  self := fun A i s Q E st h => let ⟨⟨_, he⟩, _⟩ := st; wpAny_pyIter_enum he h
section
variable {X : Cx} {W : WX}
def iEnumT (K : PySem.W.Frag) (ta : TA) : TI := fun σ H R => ta σ H fun vs H1 => ∃ a xs, vs = [.ref a] ∧ SqT K H1 a xs ∧ R (IteT K a) H1
theorem pi_enumT {e : Expr} {ta : TA} {p pos tpos : Pos} {elts : List Expr} {kk : Nat} (hg : Gl X "enumerate") (hm : X.mg "enumerate" = none) (ha : PA X [e] ta) (hs : starEach [e] X.env = [(false, eval e X.env)] := by rfl) :
    PI X (.Tuple elts kk tpos) (.Call (.Name "enumerate" p) [e] [] pos) (iEnumT X.K ta) := by
  refine ⟨fun pins s σ H R I h => ?_⟩
  refine Call_ (ld_blt I hg hm boot_enumerate (PyProof.Rows.callWith_type1 (thn (ha.run pos pins s σ H _ I h) fun us s1 ⟨vs, H1, I1, r1, q1⟩ => ?_) hs rfl))
  obtain ⟨a, xs, ex, hq, q⟩ := q1
  subst ex
  cases r1 with
  | cons r rr =>
    cases rr
    cases r
    obtain ⟨its, rv, p', hz⟩ := I1.tuple hq
    refine call_enumT p' fun h' he hit hsz hk => wpAny_pyIter_enum he ?_
    have I2 : Inv X pins σ H1 { s1 with heap := h' } := I1.kept (t' := s1.toks) hk
    refine ⟨s1.heap.objs.size + 1, [s1.heap.objs.size + 1, s1.heap.objs.size], _, _, H1, rfl, I2, turn_enumT a (s1.heap.objs.size + 1) s1.heap.objs.size, ⟨⟨.none, he⟩, hit, Nat.succ_ne_self _⟩, fun b hb => ?_, q⟩
    have e' : b = s1.heap.objs.size + 1 ∨ b = s1.heap.objs.size := by simpa using hb
    have hle : s1.heap.objs.size ≤ b := by
      rcases e' with z | z
      · rw [z]; exact Nat.le_add_right _ _
      · rw [z]; exact Nat.le_refl _
    exact I1.fpOk hle (I1.hok.fresh hle)
theorem wp_enumT {K : PySem.W.Frag} {H0 : Hp} {a : Addr} {vs : List V} {xs : List PV} {pl : Option (Addr × HO)} (hq : ∀ H, Ext H0 H → SqT K H a vs) (r : ∀ H, Ext H0 H → RepA K H vs xs) : WP K (IteT K a) (enumP xs) H0 pl := by
  have hl := (r H0 (Ext.refl H0)).length
  refine ⟨fun i H hi e _ => ?_, fun H e _ => ⟨vs, hq H e, by rw [enumP_length, hl]⟩, fun i H v H' hi e _ y => ?_⟩
  · rw [enumP_length, ← hl] at hi
    exact ⟨vs, vs[i], hq H e, by simp [hi]⟩
  · obtain ⟨T, x, rfl, hT, rfl, hx⟩ := y
    have sm := same_upd (u := HO.tup [.int (i : Nat), x]) hT
    obtain ⟨z, hz, rz⟩ := (r H e).get (hx vs (hq H e))
    exact ⟨sm, _, enumP_get hz, .tup upd_same (.cons (.int _) (.cons (rz.ext (Ext.of_same sm)) .nil))⟩
/-- enumerate(x) of a list or a tuple -/
def enumI (f : Sk → R OV) : Sk → R (List PV × Option Nat) := fun S => (f S).bind fun o S1 => match o with
  | .v (.lst xs) => .ok (enumP xs, none) S1
  | .v (.tup xs) => .ok (enumP xs, none) S1
  | .v (.scr ns) => .ok (enumP (ns.map .int), none) S1
  | .s j => (match getO S1 j with
    | some (.lst xs) => .ok (enumP xs, some j) S1
    | _ => .stuck)
  | _ => .stuck
variable {e : Expr} {fo : Sk → R OV} {p pos tpos : Pos} {elts : List Expr} {kk : Nat}
theorem ei_enum (hg : Gl X "enumerate") (hm : X.mg "enumerate" = none) (he : EO X W e fo) (hs : starEach [e] X.env = [(false, eval e X.env)]) (hs2 : starEach [e] X.env = (false, eval e X.env) :: starEach [] X.env) :
    EI X W (.Tuple elts kk tpos) (.Call (.Name "enumerate" p) [e] [] pos) (enumI fo) := by
  have ha := pa_cons he.pe pa_nil hs2
  refine ⟨PI.imp (PI.or (pi_enum hg hm ha hs) (pi_enumT hg hm ha hs)) fun σ H Q ⟨S, R0, q⟩ => ?_⟩
  have go : ∀ {T : VK}, (match fo S with
      | .stuck => False
      | .ok o S1 => ∀ v H1, OVRel X.K σ H1 o v → RelS X.K S1 σ H1 → Frm S σ H S1 σ H1 → T v H1
      | .exc e S1 => ∀ cls d H1, ExnRep X.K X.mg H1 cls d e → RelS X.K S1 σ H1 → Frm S σ H S1 σ H1 → W cls d σ H1) → LiftO X.K X.mg W fo σ H T := fun {T} z => ⟨S, R0, by
    cases hf : fo S with
    | stuck => rw [hf] at z; exact z
    | exc y S1 => rw [hf] at z; exact z
    | ok o S1 => rw [hf] at z; exact z⟩
  unfold enumI at q
  cases hf : fo S with
  | stuck => rw [hf] at q; exact q.elim
  | exc y S1 =>
    rw [hf] at q
    refine .inl (go ?_)
    rw [hf]
    exact q
  | ok o S1 =>
    rw [hf] at q go
    dsimp only at go
    rw [R.bind_ok] at q
    cases o with
    | s j =>
      refine .inl (go fun v H1 ov R1 F1 => ?_)
      dsimp only at q
      cases hg : getO S1 j with
      | none => rw [hg] at q; exact q.elim
      | some c =>
        rw [hg] at q
        cases c <;> first | exact q.elim | skip
        rename_i xs
        obtain ⟨a, vs, h1, h2, r⟩ := own_list R1 hg
        have h' : σ[j]? = some (some v) := ov
        rw [h'] at h1
        cases h1
        exact ⟨a, vs, rfl, SqL.of h2, q _ H1 (some (a, .lst vs)) (wp_enum (fun H e p => sq_pin p) fun H e => RepA.ext e r) ⟨h', h2, _, hg⟩ R1 F1⟩
    | v x =>
      cases x <;> first | exact q.elim | skip
      · refine .inr (go fun v H1 ov R1 F1 => ?_)
        obtain ⟨a, vs, rfl, h1, r⟩ := RT.tup (.inl (show Rep X.K H1 v (.tup _) from ov))
        exact ⟨a, vs, rfl, SqT.of h1, q _ H1 none (wp_enumT (fun H e => SqT.of (e.tup _ _ h1)) fun H e => RepA.ext e r) trivial R1 F1⟩
      · refine .inl (go fun v H1 ov R1 F1 => ?_)
        obtain ⟨a, o, vs, rfl, h1, r⟩ := rep_lstI (show Rep X.K H1 v (.lst _) from ov)
        exact ⟨a, vs, rfl, .inl (.inr ⟨o, h1⟩), q _ H1 none (wp_enum (fun H e p => .inl (.inr ⟨o, e.frz _ _ _ h1⟩)) fun H e => RepA.ext e r) trivial R1 F1⟩
      · refine .inl (go fun v H1 ov R1 F1 => ?_)
        obtain ⟨a, rfl, h1⟩ := rep_scrI (show Rep X.K H1 v (.scr _) from ov)
        exact ⟨a, _, rfl, h1.sq, q _ H1 none (wp_enum (fun H e p => (e.fzL h1).sq) fun H e => RepA.of_ints _) trivial R1 F1⟩
end
end VL

set_option Elab.async false
set_option linter.all false
set_option autoImplicit false
set_option maxRecDepth 100000
set_option maxHeartbeats 4000000
/-! VU: tuple(range(..)), list(range(..)), max, min of a list; words in short. -/
namespace VL
open PySem L2
section
variable {X : Cx} {W : WX} {a b : Expr} {fa fb : Sk → R OV} {p p2 pos pos2 : Pos}
abbrev rgOkB (i j : Int) : Prop := -(2 ^ 62) ≤ i ∧ i < 2 ^ 62 ∧ -(2 ^ 62) ≤ j ∧ j < 2 ^ 62 ∧ (j - i).toNat ≤ 2 ^ 24
theorem rep_rg (K : PySem.W.Frag) (H : Hp) (i j : Int) : RepA K H (rgV i j) (rngP i (j - i).toNat) := by
  have e : rgV i j = ((List.range (j - i).toNat).map fun (k : Nat) => i + (k : Int)).map V.int := by unfold rgV; rw [List.map_map]; rfl
  have e2 : rngP i (j - i).toNat = ((List.range (j - i).toNat).map fun (k : Nat) => i + (k : Int)).map PV.int := by unfold rngP; rw [List.map_map]; rfl
  rw [e, e2]
  exact RepA.of_ints _
def sTupRg1 : PV → Option PV
  | .int j => if rgOkB 0 j then some (.tup (rngP 0 j.toNat)) else none
  | _ => none
def sTupRg2 : PV → PV → Option PV
  | .int i, .int j => if rgOkB i j then some (.tup (rngP i (j - i).toNat)) else none
  | _, _ => none
def sLstRg1 : PV → Option PV
  | .int j => if rgOkB 0 j then some (.lst (rngP 0 j.toNat)) else none
  | _ => none
def sLstRg2 : PV → PV → Option PV
  | .int i, .int j => if rgOkB i j then some (.lst (rngP i (j - i).toNat)) else none
  | _, _ => none
theorem sub0 (j : Int) : (j - 0).toNat = j.toNat := by rw [Int.sub_zero]
theorem s_tupRg1 : Sem1 X Out (fun x H1 Q => ∃ n, x = .int n ∧ RgOk 0 n ∧ ∀ q, H1 q = none → Q (.ref q) (upd H1 q (.tup (rgV 0 n)))) sTupRg1 := by
  intro H x y z Q r e o
  unfold sTupRg1 at e
  split at e
  · split at e
    · rename_i j hj
      cases e
      obtain rfl := r.int
      refine ⟨j, rfl, hj, fun q hq => o _ _ (.tup upd_same ?_) (same_upd hq)⟩
      have := rep_rg X.K (upd H q (.tup (rgV 0 j))) 0 j
      rw [sub0] at this
      exact this
    · cases e
  · cases e
theorem s_tupRg2 : Sem2 X Out (fun x y H1 Q => ∃ i j, x = .int i ∧ y = .int j ∧ RgOk i j ∧ ∀ q, H1 q = none → Q (.ref q) (upd H1 q (.tup (rgV i j)))) sTupRg2 := by
  intro H x y z t w Q r r' e o
  unfold sTupRg2 at e
  split at e
  · split at e
    · rename_i i j hj
      cases e
      obtain rfl := r.int
      obtain rfl := r'.int
      exact ⟨i, j, rfl, rfl, hj, fun q hq => o _ _ (.tup upd_same (rep_rg _ _ _ _)) (same_upd hq)⟩
    · cases e
  · cases e
theorem s_lstRg1 : Sem1 X OutL (fun x H1 Q => ∃ n, x = .int n ∧ RgOk 0 n ∧ ∀ q, H1 q = none → Q (.ref q) (upd H1 q (.lst (rgV 0 n)))) sLstRg1 := by
  intro H x y z Q r e o
  unfold sLstRg1 at e
  split at e
  · split at e
    · rename_i j hj
      cases e
      obtain rfl := r.int
      refine ⟨j, rfl, hj, fun q hq => o _ _ _ hq upd_same ?_ (same_upd hq)⟩
      have := rep_rg X.K (upd H q (.lst (rgV 0 j))) 0 j
      rw [sub0] at this
      exact this
    · cases e
  · cases e
theorem s_lstRg2 : Sem2 X OutL (fun x y H1 Q => ∃ i j, x = .int i ∧ y = .int j ∧ RgOk i j ∧ ∀ q, H1 q = none → Q (.ref q) (upd H1 q (.lst (rgV i j)))) sLstRg2 := by
  intro H x y z t w Q r r' e o
  unfold sLstRg2 at e
  split at e
  · split at e
    · rename_i i j hj
      cases e
      obtain rfl := r.int
      obtain rfl := r'.int
      exact ⟨i, j, rfl, rfl, hj, fun q hq => o _ _ _ hq upd_same (rep_rg _ _ _ _) (same_upd hq)⟩
    · cases e
  · cases e
theorem liftO_imp {K : PySem.W.Frag} {mg : Str → Option Value} {f : Sk → R OV} {σ : St} {H : Hp} {Q Q' : VK} (h : LiftO K mg W f σ H Q) (i : ∀ x H1, Q x H1 → Q' x H1) : LiftO K mg W f σ H Q' := by
  obtain ⟨S, R0, q⟩ := h
  refine ⟨S, R0, ?_⟩
  cases hf : f S with
  | stuck => rw [hf] at q; exact q
  | exc x S1 => rw [hf] at q; exact q
  | ok o S1 =>
    rw [hf] at q
    exact fun v H1 r R1 F1 => i v H1 (q v H1 r R1 F1)
theorem tupRg1 (hc : X.calm = true) (hm : X.mg "tuple" = none) (hm2 : X.mg "range" = none) (ha : EO X W a fa) (hg : Gl X "tuple" := by rfl) (hg2 : Gl X "range" := by rfl)
    (na : starEach [a] X.env = (false, eval a X.env) :: starEach [] X.env := by rfl) (nb : starEach [.Call (.Name "range" p2) [a] [] pos2] X.env = (false, eval (.Call (.Name "range" p2) [a] [] pos2) X.env) :: starEach [] X.env := by rfl) :
    EV X W (.Call (.Name "tuple" p) [.Call (.Name "range" p2) [a] [] pos2] [] pos) (op1 sTupRg1 fa) := by
  refine ⟨PE.imp (pe_tupRg hc hg hm (prg_1 hg2 hm2 ha.pe na) nb) fun σ H Q h => ?_⟩
  obtain ⟨S, R0, q⟩ := lift1 s_tupRg1 h
  refine ⟨S, R0, ?_⟩
  cases hf : fa S with
  | stuck => rw [hf] at q; exact q
  | exc x S1 => rw [hf] at q; exact q
  | ok o S1 =>
    rw [hf] at q
    intro v H1 r R1 F1
    obtain ⟨n, h1, h2, h3⟩ := q v H1 r R1 F1
    exact ⟨n, h1, h2, h3⟩
theorem lstRg1 (hc : X.calm = true) (hm : X.mg "list" = none) (hm2 : X.mg "range" = none) (ha : EO X W a fa) (hg : Gl X "list" := by rfl) (hg2 : Gl X "range" := by rfl)
    (na : starEach [a] X.env = (false, eval a X.env) :: starEach [] X.env := by rfl) (nb : starEach [.Call (.Name "range" p2) [a] [] pos2] X.env = (false, eval (.Call (.Name "range" p2) [a] [] pos2) X.env) :: starEach [] X.env := by rfl) :
    EL X W (.Call (.Name "list" p) [.Call (.Name "range" p2) [a] [] pos2] [] pos) (op1 sLstRg1 fa) := by
  refine ⟨PE.imp (pe_listRg hc hg hm (prg_1 hg2 hm2 ha.pe na) nb) fun σ H Q h => lift1L s_lstRg1 h⟩
theorem tupRg2 (hc : X.calm = true) (hm : X.mg "tuple" = none) (hm2 : X.mg "range" = none) (ha : EO X W a fa) (hb : EO X W b fb) (hg : Gl X "tuple" := by rfl) (hg2 : Gl X "range" := by rfl)
    (na : starEach [a, b] X.env = (false, eval a X.env) :: starEach [b] X.env := by rfl) (nb : starEach [b] X.env = (false, eval b X.env) :: starEach [] X.env := by rfl) (hp : (backTo pos2 (starEach [b] X.env)).any (·.1) = false := by rfl)
    (nc : starEach [.Call (.Name "range" p2) [a, b] [] pos2] X.env = (false, eval (.Call (.Name "range" p2) [a, b] [] pos2) X.env) :: starEach [] X.env := by rfl) :
    EV X W (.Call (.Name "tuple" p) [.Call (.Name "range" p2) [a, b] [] pos2] [] pos) (op2 sTupRg2 fa fb) := by
  refine ⟨PE.imp (pe_tupRg hc hg hm (prg_2 hg2 hm2 ha.pe hb.pe na nb hp) nc) fun σ H Q h => ?_⟩
  exact liftO_imp (lift2 s_tupRg2 h) fun x H1 h1 => liftO_imp h1 fun y H2 ⟨i, j, z1, z2, z3⟩ => ⟨i, j, z1, z2, z3⟩
theorem lstRg2 (hc : X.calm = true) (hm : X.mg "list" = none) (hm2 : X.mg "range" = none) (ha : EO X W a fa) (hb : EO X W b fb) (hg : Gl X "list" := by rfl) (hg2 : Gl X "range" := by rfl)
    (na : starEach [a, b] X.env = (false, eval a X.env) :: starEach [b] X.env := by rfl) (nb : starEach [b] X.env = (false, eval b X.env) :: starEach [] X.env := by rfl) (hp : (backTo pos2 (starEach [b] X.env)).any (·.1) = false := by rfl)
    (nc : starEach [.Call (.Name "range" p2) [a, b] [] pos2] X.env = (false, eval (.Call (.Name "range" p2) [a, b] [] pos2) X.env) :: starEach [] X.env := by rfl) :
    EL X W (.Call (.Name "list" p) [.Call (.Name "range" p2) [a, b] [] pos2] [] pos) (op2 sLstRg2 fa fb) := by
  refine ⟨PE.imp (pe_listRg hc hg hm (prg_2 hg2 hm2 ha.pe hb.pe na nb hp) nc) fun σ H Q h => ?_⟩
  exact liftO_imp (lift2L s_lstRg2 h) fun x H1 h1 => liftO_imp h1 fun y H2 ⟨i, j, z1, z2, z3⟩ => ⟨i, j, z1, z2, z3⟩
/-! ### max, min of a list of ints -/
def maxI : Int → List Int → Int
  | m, [] => m
  | m, n :: ns => maxI (if n > m then n else m) ns
def minI : Int → List Int → Int
  | m, [] => m
  | m, n :: ns => minI (if n < m then n else m) ns
theorem maxI_mem : ∀ (ns : List Int) (m : Int), (maxI m ns = m ∨ maxI m ns ∈ ns) ∧ m ≤ maxI m ns ∧ ∀ y ∈ ns, y ≤ maxI m ns
  | [], m => ⟨.inl rfl, Int.le_refl m, fun y hy => by cases hy⟩
  | n :: ns, m => by
    obtain ⟨h1, h2, h3⟩ := maxI_mem ns (if n > m then n else m)
    show (maxI (if n > m then n else m) ns = m ∨ maxI (if n > m then n else m) ns ∈ n :: ns) ∧ m ≤ maxI (if n > m then n else m) ns ∧ ∀ y ∈ n :: ns, y ≤ maxI (if n > m then n else m) ns
    refine ⟨?_, ?_, fun y hy => ?_⟩
    · rcases h1 with h1 | h1
      · rw [h1]
        split
        · exact .inr List.mem_cons_self
        · exact .inl rfl
      · exact .inr (List.mem_cons_of_mem _ h1)
    · split at h2 <;> rename_i g
      · rw [if_pos g]; omega
      · rw [if_neg g]; omega
    · rcases List.mem_cons.mp hy with hy | hy
      · rw [hy]
        split at h2 <;> rename_i g
        · rw [if_pos g]; omega
        · rw [if_neg g]; omega
      · exact h3 y hy
theorem minI_mem : ∀ (ns : List Int) (m : Int), (minI m ns = m ∨ minI m ns ∈ ns) ∧ minI m ns ≤ m ∧ ∀ y ∈ ns, minI m ns ≤ y
  | [], m => ⟨.inl rfl, Int.le_refl m, fun y hy => by cases hy⟩
  | n :: ns, m => by
    obtain ⟨h1, h2, h3⟩ := minI_mem ns (if n < m then n else m)
    show (minI (if n < m then n else m) ns = m ∨ minI (if n < m then n else m) ns ∈ n :: ns) ∧ minI (if n < m then n else m) ns ≤ m ∧ ∀ y ∈ n :: ns, minI (if n < m then n else m) ns ≤ y
    refine ⟨?_, ?_, fun y hy => ?_⟩
    · rcases h1 with h1 | h1
      · rw [h1]
        split
        · exact .inr List.mem_cons_self
        · exact .inl rfl
      · exact .inr (List.mem_cons_of_mem _ h1)
    · split at h2 <;> rename_i g
      · rw [if_pos g]; omega
      · rw [if_neg g]; omega
    · rcases List.mem_cons.mp hy with hy | hy
      · rw [hy]
        split at h2 <;> rename_i g
        · rw [if_pos g]; omega
        · rw [if_neg g]; omega
      · exact h3 y hy
def sMaxL : List PV → Option PV
  | [.lst xs] => (match intsOf xs with
    | some (n :: ns) => some (.int (maxI n ns))
    | _ => none)
  | _ => none
def sMinL : List PV → Option PV
  | [.lst xs] => (match intsOf xs with
    | some (n :: ns) => some (.int (minI n ns))
    | _ => none)
  | _ => none
theorem s_maxL : SemA X Out (rMax X.K) sMaxL := by
  intro H vs ps z Q h e o
  unfold sMaxL at e
  split at e
  · split at e
    · rename_i n ns hi
      cases e
      have e2 := intsOf_eq hi
      subst e2
      obtain ⟨v, rfl, h1⟩ := rts1 h
      obtain ⟨a, ws, rfl, h2, r⟩ := h1.lst
      rw [r.ints] at h2
      refine ⟨a, n :: ns, rfl, h2, Nat.succ_pos _, fun m h3 h4 => ?_⟩
      obtain ⟨k1, k2, k3⟩ := maxI_mem ns n
      have b1 : maxI n ns ≤ m := h4 _ (by
        rcases k1 with k1 | k1
        · rw [k1]; exact List.mem_cons_self
        · exact List.mem_cons_of_mem _ k1)
      have b2 : m ≤ maxI n ns := by
        rcases List.mem_cons.mp h3 with h3 | h3
        · rw [h3]; exact k2
        · exact k3 m h3
      have : m = maxI n ns := by omega
      rw [this]
      exact o _ H (.int _) (Same.refl H)
    · cases e
  · cases e
theorem s_minL : SemA X Out (rMin X.K) sMinL := by
  intro H vs ps z Q h e o
  unfold sMinL at e
  split at e
  · split at e
    · rename_i n ns hi
      cases e
      have e2 := intsOf_eq hi
      subst e2
      obtain ⟨v, rfl, h1⟩ := rts1 h
      obtain ⟨a, ws, rfl, h2, r⟩ := h1.lst
      rw [r.ints] at h2
      refine ⟨a, n :: ns, rfl, h2, Nat.succ_pos _, fun m h3 h4 => ?_⟩
      obtain ⟨k1, k2, k3⟩ := minI_mem ns n
      have b1 : m ≤ minI n ns := h4 _ (by
        rcases k1 with k1 | k1
        · rw [k1]; exact List.mem_cons_self
        · exact List.mem_cons_of_mem _ k1)
      have b2 : minI n ns ≤ m := by
        rcases List.mem_cons.mp h3 with h3 | h3
        · rw [h3]; exact k2
        · exact k3 m h3
      have : m = minI n ns := by omega
      rw [this]
      exact o _ H (.int _) (Same.refl H)
    · cases e
  · cases e
/-! ### words in short -/
theorem cBL {idn : String} {r : List V → Hp → VK → Prop} {sem : List PV → Option PV} {x : Str} {p : Pos} {e : Expr} {es : List Expr} {fa : Sk → R (List OV)} (hc : CallR X (.builtin idn) r) (hs : SemA X OutL r sem) (hm : X.mg x = none) (ha : EA X W (e :: es) fa) (hg : Gl X x := by rfl) (hv : bootBuiltins x = some (.builtin idn) := by decide +kernel) (hn : x ≠ "__name__" := by decide) (hdb : (x == ("__debug__" : Str)) = false := by decide)
    (he : starEach (e :: es) X.env = (false, eval e X.env) :: starEach es X.env := by rfl) (hpl : (backTo pos (starEach es X.env)).any (·.1) = false := by rfl) : EL X W (.Call (.Name x p) (e :: es) [] pos) (opA sem fa) := el_callB hc hs hg hm hv ha hn hdb he hpl
theorem enumW {e : Expr} {fo : Sk → R OV} {p pos tpos : Pos} {elts : List Expr} {kk : Nat} (hm : X.mg "enumerate" = none) (he : EO X W e fo) (hg : Gl X "enumerate" := by rfl) (hs : starEach [e] X.env = [(false, eval e X.env)] := by rfl) (hs2 : starEach [e] X.env = (false, eval e X.env) :: starEach [] X.env := by rfl) :
    EI X W (.Tuple elts kk tpos) (.Call (.Name "enumerate" p) [e] [] pos) (enumI fo) := ei_enum hg hm he hs hs2
theorem sset {e : Expr} {fa : Sk → R (List OV)} {p p2 pos pos2 : Pos} (hc : X.calm = true) (hu : X.A.units + 80 < cLine) (hm : X.mg "sorted" = none) (hm2 : X.mg "set" = none) (ha : EA X W [e] fa) (hg : Gl X "sorted" := by rfl) (hg2 : Gl X "set" := by rfl)
    (he : starEach [e] X.env = (false, eval e X.env) :: starEach [] X.env := by rfl) (hpl2 : (backTo pos2 (starEach [] X.env)).any (·.1) = false := by rfl)
    (he2 : starEach [.Call (.Name "set" p2) [e] [] pos2] X.env = (false, eval (.Call (.Name "set" p2) [e] [] pos2) X.env) :: starEach [] X.env := by rfl) (hpl : (backTo pos (starEach [] X.env)).any (·.1) = false := by rfl) :
    EL X W (.Call (.Name "sorted" p) [.Call (.Name "set" p2) [e] [] pos2] [] pos) (opA sSortedSet fa) :=
  ⟨PE.imp (pe_ss hc hu hg hm hg2 hm2 ha.pa he hpl2 he2 hpl) fun _ _ _ h => liftAL s_sortedSet h⟩
theorem vs_setC2 {tg iter elt : Expr} {ifs : List Expr} {ts : List Nat} {f : Sk → R (List PV × Option Nat)} {g : PV → Sk → Option Sk} {c : Sk → R Bool} {e : Sk → R PV} {scope : Scope} (own : List (Str × Nat)) {vs : List Nat} (hvs : own.map (·.2) = vs) {i : Nat} {y : Str} {py spos : Pos} (hc : X.calm = true) (hN : X.N.Nodup) (hi : EI X W tg iter f) (ok : BlkOk X.N X.env.scope scope own)
    (hg : ∀ (s : Shared) (H : Hp) (C : Addr) (cl : List (Str × Addr)) (fp : List Addr), EG (X.blk s H scope (compEnvC scope cl C X.env) fp) tg ts g) (ht : ∀ (s : Shared) (H : Hp) (C : Addr) (cl : List (Str × Addr)) (fp : List Addr), ETs (X.blk s H scope (compEnvC scope cl C X.env) fp) WF ifs c)
    (he : ∀ (s : Shared) (H : Hp) (C : Addr) (cl : List (Str × Addr)) (fp : List Addr), EV (X.blk s H scope (compEnvC scope cl C X.env) fp) WF elt e) (hsw : swapsWith (.ListComp elt [⟨tg, iter, ifs, 0⟩] scope pos) (some (.Name y py)) spos.line X.env = pure true) (hts : ∀ i ∈ ts, i ∈ own.map (·.2))
    (hy : X.N[i]? = some y := by rfl) (hyl : X.env.scope.names.lookup y = some .local := by rfl) (hs : ∀ x, foldedSetIterable iter X.env x = pure x := by intro _; rfl) :
    VS X W (.Assign [.Name y py] (.ListComp elt [⟨tg, iter, ifs, 0⟩] scope pos) spos) (setX (xL (compF f g c e vs)) i) := by
  subst hvs
  exact vs_setC hc hN hi ok hg ht he hsw hts hy hyl hs
theorem comp2 {tg iter elt : Expr} {ifs : List Expr} {ts : List Nat} {f : Sk → R (List PV × Option Nat)} {g : PV → Sk → Option Sk} {c : Sk → R Bool} {e : Sk → R PV} {scope : Scope} (own : List (Str × Nat)) {vs : List Nat} (hvs : own.map (·.2) = vs) (hc : X.calm = true) (hN : X.N.Nodup) (hi : EI X W tg iter f) (ok : BlkOk X.N X.env.scope scope own)
    (hg : ∀ (s : Shared) (H : Hp) (C : Addr) (cl : List (Str × Addr)) (fp : List Addr), EG (X.blk s H scope (compEnvC scope cl C X.env) fp) tg ts g) (ht : ∀ (s : Shared) (H : Hp) (C : Addr) (cl : List (Str × Addr)) (fp : List Addr), ETs (X.blk s H scope (compEnvC scope cl C X.env) fp) WF ifs c)
    (he : ∀ (s : Shared) (H : Hp) (C : Addr) (cl : List (Str × Addr)) (fp : List Addr), EV (X.blk s H scope (compEnvC scope cl C X.env) fp) WF elt e) (hts : ∀ i ∈ ts, i ∈ own.map (·.2)) (hs : ∀ x, foldedSetIterable iter X.env x = pure x := by intro _; rfl) :
    EL X W (.ListComp elt [⟨tg, iter, ifs, 0⟩] scope pos) (compF f g c e vs) := by
  subst hvs
  exact comp1 hc hN hi ok hg ht he hts hs
/-! ### a call by keywords alone -/
section
variable {CX : CXT} {k n : Nat} {f : Addr} {fd : FuncData} {ps ks : List Str} {sp : Sp} {E : St → XK} {x : Str} {p pos : Pos} {kws : List Keyword} {tk : TA} {g : List Value → List Value → List Value} {gV : List V → List V → List V}
theorem pe_callNS0 (F : FnOk X.prog X.w X.K X.mg X.base CX k f fd ps sp) (hr : Room k X.A) (hg : Gl X x) (hm : X.mg x = some (.ref f)) (hk : PySem.W.keepIn X.K (.ref f) = true) (hb : KBn X.K fd ps 0 ks g gV) (hx : ∀ σ, PassesAt CX X σ (E σ))
    (hkw : PK X kws tk) (hall : (backToKw pos (keywordEach kws X.env)).all (·.1.isSome) = true) (hks : (backToKw pos (keywordEach kws X.env)).filterMap (·.1) = ks)
    (hdb : (x == ("__debug__" : Str)) = false) (hpl : ((backTo pos (starEach [] X.env)).any (·.1) || (backToKw pos (keywordEach kws X.env)).any (·.1.isNone)) = false) :
    PE X (.Call (.Name x p) [] kws pos) (fun σ H Q => tk σ H fun zs H2 => zs.length = ks.length ∧ sp (gV [] zs) H2 Q (E σ)) := by
  refine ⟨fun pins s σ H Q I h => wpAny_Call_Name_kw (ld_glob I hg hm ?_ hdb)⟩
  refine PySem.W.callWith_KW0 (h₀ := X.base) I.ok.mod.kin hk hall (thn (hkw.run pos pins s σ H _ I h) fun ws s2 ⟨zs, H2, I2, rz, l2, q2⟩ => ⟨I2.kIn, ?_⟩) hpl
  rw [hks]
  have r2 := hb.rel (vs := []) (us := []) .nil rz
  refine wpAny_call (codeAny_mono (F.run X.A X.stack s2 H2 ⟨[], ks.zip ws⟩ (g [] ws) (gV [] zs) Q (E σ) hr I2.env0 (hb.to s2 [] ws I2.kIn rfl (rz.length.symm.trans l2)) r2 q2) fun res s' hq => ?_)
  match res, hq with
  | .error e, hq => exact hx σ pins H2 s2 e s' I2 hq
  | .ok (.ret u), hq => exact I2.after hq
  | .ok .next, hq => exact False.elim hq
  | .ok .brk, hq => exact False.elim hq
  | .ok .cont, hq => exact False.elim hq
theorem nil_lift {K : PySem.W.Frag} {mg : Str → Option Value} {σ : St} {H : Hp} {R : List V → Hp → Prop} (h : LiftA K mg W aNil σ H R) : R [] H := by
  obtain ⟨S, R0, q⟩ := h
  exact q [] H trivial R0 .refl
variable {fn : Fn} {fk : Sk → R (List OV)} {is : List Nat}
theorem ex_callK (Fo : FnOk X.prog X.w X.K X.mg X.base CX k f fd ps (SpOf X.K X.mg fn)) (hr : Room k X.A) (hm : X.mg x = some (.ref f)) (hk : PySem.W.keepIn X.K (.ref f) = true) (hb : KBn X.K fd ps 0 ks (fun us ws => gI is (us ++ ws)) (fun vs zs => gI is (vs ++ zs))) (hx : ∀ σ, PassesAt CX X σ (WE W σ))
    (hkw : EK X W kws fk) (hg : Gl X x := by rfl) (hall : (backToKw pos (keywordEach kws X.env)).all (·.1.isSome) = true := by rfl) (hks : (backToKw pos (keywordEach kws X.env)).filterMap (·.1) = ks := by rfl)
    (hdb : (x == ("__debug__" : Str)) = false := by decide) (hpl : ((backTo pos (starEach [] X.env)).any (·.1) || (backToKw pos (keywordEach kws X.env)).any (·.1.isNone)) = false := by rfl) :
    EX X W (.Call (.Name x p) [] kws pos) (callX fn (fka 0 ks.length is aNil fk)) := ⟨PE.imp (pe_callNS0 Fo hr hg hm hk hb hx hkw.pk hall hks hdb hpl) fun σ H Q h => by
  have q := nil_lift (fka_lift (call_liftX h))
  obtain ⟨S, R0, q⟩ := q
  refine ⟨S, R0, ?_⟩
  cases hf : fk S with
  | stuck => rw [hf] at q; exact q
  | exc y S1 => rw [hf] at q; exact q
  | ok os S1 =>
    rw [hf] at q
    exact fun v H1 r R1 F1 => (q v H1 r R1 F1).2⟩
end
/-! ### a comprehension within a comprehension -/
def relS (sc dsc : Scope) : Scope := { sc with names := sc.names.map fun (n, k) => if (k == .free && dsc.kind == .function && dsc.names.lookup n == some .cell) then (n, .cell) else (n, k) }
theorem blkIn {X : Cx} {s : Shared} {H : Hp} {sc scope : Scope} {cl : List (Str × Addr)} {C : Addr} {env : Env} {fp : List Addr} {own : List (Str × Nat)} (N : List Str) (dsc : Scope) (hN : X.N = N) (he : env.scope = dsc) (h : blkC N (relS sc dsc) scope own = true) : BlkOk (X.blk s H sc (compEnvC sc cl C env) fp).N (X.blk s H sc (compEnvC sc cl C env) fp).env.scope scope own := by
  subst hN
  subst he
  exact blkOk_by h
end
end VL

set_option Elab.async false
set_option linter.all false
set_option autoImplicit false
set_option maxRecDepth 100000
set_option maxHeartbeats 4000000
/-! VM: what the readings give, value by value. -/
namespace VL
open PySem L2

/-! ### how the readings run: every rest is named, so that nothing is looked into before its state is known -/
section
variable {α : Type} {S S1 : Sk} {f f2 : Sk → R PV} {fo fo2 : Sk → R OV} {fa fa2 : Sk → R (List OV)} {ft ft2 : Sk → R Bool} {gx : Sk → R RV} {F G : Sk → O} {i j : Nat} {x y z p q : PV} {os : List OV} {o o2 : OV}
def oThen (r : O) (G : Sk → O) : O := match r with
  | .nx S1 => G S1
  | .stuck => .stuck
  | .rt r S1 => .rt r S1
  | .bk S1 => .bk S1
  | .ct S1 => .ct S1
  | .exc e S1 => .exc e S1
@[simp] theorem seqF_ap : seqF F G S = oThen (F S) G := rfl
@[simp] theorem oThen_nx : oThen (.nx S) G = G S := rfl
@[simp] theorem oThen_rt (r : RV) : oThen (.rt r S) G = .rt r S := rfl
@[simp] theorem oThen_bk : oThen (.bk S) G = .bk S := rfl
@[simp] theorem oThen_ct : oThen (.ct S) G = .ct S := rfl
@[simp] theorem oThen_exc (e : Exn) : oThen (.exc e S) G = .exc e S := rfl
@[simp] theorem nxF_ap : nxF S = .nx S := rfl
@[simp] theorem bkF_ap : bkF S = .bk S := rfl
@[simp] theorem ctF_ap : ctF S = .ct S := rfl
@[simp] theorem retNF_ap : retNF S = .rt (.v .non) S := rfl
def kRet (r : RV) (S1 : Sk) : O := .rt r S1
@[simp] theorem retX_ap : retX gx S = (gx S).toO kRet := rfl
@[simp] theorem kRet_ap (r : RV) : kRet r S = .rt r S := rfl
def kSet (i : Nat) (r : RV) (S1 : Sk) : O := if unpinned S1 i = true then (match r with
  | .v x => .nx (S1.set i (.val x))
  | .l x => .nx (S1.set i (.own x))) else .stuck
@[simp] theorem setX_ap : setX gx i S = (gx S).toO (kSet i) := rfl
@[simp] theorem kSet_v : kSet i (.v x) S = if unpinned S i = true then .nx (S.set i (.val x)) else .stuck := rfl
@[simp] theorem kSet_l : kSet i (.l x) S = if unpinned S i = true then .nx (S.set i (.own x)) else .stuck := rfl
def kIfS (F G : Sk → O) (b : Bool) (S1 : Sk) : O := if b = true then F S1 else G S1
@[simp] theorem ifS_ap : ifS ft F G S = (ft S).toO (kIfS F G) := rfl
@[simp] theorem kIfS_t : kIfS F G true S = F S := rfl
@[simp] theorem kIfS_f : kIfS F G false S = G S := rfl
def kExpr (_ : PV) (S1 : Sk) : O := .nx S1
@[simp] theorem exprF_ap : exprF f S = (f S).toO kExpr := rfl
@[simp] theorem kExpr_ap : kExpr x S = .nx S := rfl
def kPar (i j : Nat) (os : List OV) (S1 : Sk) : O := match valsOf os with
  | some [x, y] => if unpinned S1 i = true ∧ unpinned S1 j = true then .nx ((S1.set i (.val x)).set j (.val y)) else .stuck
  | _ => .stuck
@[simp] theorem parF_ap : parF i j fa S = (fa S).toO (kPar i j) := rfl
@[simp] theorem kPar_ap : kPar i j [.v x, .v y] S = if unpinned S i = true ∧ unpinned S j = true then .nx ((S.set i (.val x)).set j (.val y)) else .stuck := rfl
def kAsg (g : PV → Sk → Option Sk) (x : PV) (S1 : Sk) : O := match g x S1 with
  | some S2 => .nx S2
  | none => .stuck
@[simp] theorem asgF_ap (g : PV → Sk → Option Sk) : asgF f g S = (f S).toO (kAsg g) := rfl
def oNx (r : Option Sk) : O := match r with
  | some S2 => .nx S2
  | none => .stuck
@[simp] theorem kAsg_ap (g : PV → Sk → Option Sk) : kAsg g x S = oNx (g x S) := rfl
@[simp] theorem oNx_s : oNx (some S) = .nx S := rfl
def kAug (i : Nat) (sem : PV → PV → Option PV) (x y : PV) (S1 : Sk) : O := match sem x y with
  | some z => if unpinned S1 i = true then .nx (S1.set i (.val z)) else .stuck
  | none => .stuck
def kAug0 (i : Nat) (sem : PV → PV → Option PV) (f : Sk → R PV) (s : Option Sl) (S : Sk) : O := match s with
  | some (.val x) => (f S).toO (kAug i sem x)
  | _ => .stuck
@[simp] theorem augF_ap (sem : PV → PV → Option PV) : augF i sem f S = kAug0 i sem f S[i]? S := by
  unfold augF kAug0
  cases h : S[i]? with
  | none => rfl
  | some x => cases x <;> rfl
@[simp] theorem kAug0_ap (sem : PV → PV → Option PV) : kAug0 i sem f (some (.val x)) S = (f S).toO (kAug i sem x) := rfl
def kAug1 (i : Nat) (r : Option PV) (S1 : Sk) : O := match r with
  | some z => if unpinned S1 i = true then .nx (S1.set i (.val z)) else .stuck
  | none => .stuck
@[simp] theorem kAug_ap (sem : PV → PV → Option PV) : kAug i sem x y S = kAug1 i (sem x y) S := rfl
@[simp] theorem kAug1_ap : kAug1 i (some z) S = if unpinned S i = true then .nx (S.set i (.val z)) else .stuck := rfl
def kSt2 (j : Nat) (x i : PV) (S2 : Sk) : O := match getO S2 j, i with
  | some (.lst xs), .int k => (match ixN xs.length k with
    | some m => .nx (putO S2 j (.lst (xs.set m x)))
    | none => .stuck)
  | _, _ => .stuck
def kSt1 (j : Nat) (fi : Sk → R PV) (x : PV) (S1 : Sk) : O := (fi S1).toO (kSt2 j x)
def kSt0 (j : Nat) (f fi : Sk → R PV) (c : Option PV) (S : Sk) : O := match c with
  | some _ => (f S).toO (kSt1 j fi)
  | none => .stuck
@[simp] theorem stF_ap : stF j f f2 S = kSt0 j f f2 (getO S j) S := rfl
@[simp] theorem kSt0_ap : kSt0 j f f2 (some x) S = (f S).toO (kSt1 j f2) := rfl
@[simp] theorem kSt1_ap : kSt1 j f2 x S = (f2 S).toO (kSt2 j x) := rfl
def kSt3 (j : Nat) (x : PV) (c : Option PV) (k : Int) (S2 : Sk) : O := match c with
  | some (.lst xs) => (match ixN xs.length k with
    | some m => .nx (putO S2 j (.lst (xs.set m x)))
    | none => .stuck)
  | _ => .stuck
@[simp] theorem kSt2_ap (k : Int) : kSt2 j x (.int k) S = kSt3 j x (getO S j) k S := by
  unfold kSt2 kSt3
  split
  · rename_i xs k' h1 h2; cases h2; rw [h1]
  · rename_i h
    split
    · rename_i xs hx; exact absurd rfl (h xs k hx)
    · rfl
def kSt4 (j : Nat) (x : PV) (xs : List PV) (m : Option Nat) (S2 : Sk) : O := match m with
  | some m => .nx (putO S2 j (.lst (xs.set m x)))
  | none => .stuck
@[simp] theorem kSt3_ap (xs : List PV) (k : Int) : kSt3 j x (some (.lst xs)) k S = kSt4 j x xs (ixN xs.length k) S := rfl
@[simp] theorem kSt4_ap (xs : List PV) (m : Nat) : kSt4 j x xs (some m) S = .nx (putO S j (.lst (xs.set m x))) := rfl
/-- values -/
def kXV (x : PV) (S1 : Sk) : R RV := .ok (.v x) S1
def kXL (x : PV) (S1 : Sk) : R RV := .ok (.l x) S1
def kFz (r : RV) (S1 : Sk) : R PV := .ok r.val S1
@[simp] theorem xV_ap : xV f S = (f S).bind kXV := rfl
@[simp] theorem xL_ap : xL f S = (f S).bind kXL := rfl
@[simp] theorem fz_ap : fz gx S = (gx S).bind kFz := rfl
@[simp] theorem kXV_ap : kXV x S = .ok (.v x) S := rfl
@[simp] theorem kXL_ap : kXL x S = .ok (.l x) S := rfl
@[simp] theorem kFz_v : kFz (.v x) S = .ok x S := rfl
@[simp] theorem kFz_l : kFz (.l x) S = .ok x S := rfl
def kLx (r : RV) (S1 : Sk) : R PV := match r with
  | .l x => .ok x S1
  | .v _ => .stuck
@[simp] theorem lx_ap : lx gx S = (gx S).bind kLx := rfl
@[simp] theorem kLx_l : kLx (.l x) S = .ok x S := rfl
@[simp] theorem cst_ap : cst x S = .ok x S := rfl
def slV (s : Option Sl) (S : Sk) : R PV := match s with
  | some (.val x) => .ok x S
  | _ => .stuck
def slShare (j : Nat) (s : Option Sl) (S : Sk) : R PV := match s with
  | some (.own x) => .ok x (S.set j (.val x))
  | some (.val x) => .ok x S
  | _ => .stuck
def slMove (j : Nat) (s : Option Sl) (S : Sk) : R RV := match s with
  | some (.own x) => .ok (.l x) (S.set j .no)
  | some (.val x) => .ok (.v x) S
  | _ => .stuck
def slOpx (j : Nat) (s : Option Sl) (S : Sk) : R OV := match s with
  | some (.val x) => .ok (.v x) S
  | some (.own _) => .ok (.s j) S
  | some (.io _) => .ok (.s j) S
  | _ => .stuck
@[simp] theorem var_ap : var j S = slV S[j]? S := rfl
@[simp] theorem shareF_ap : shareF j S = slShare j S[j]? S := rfl
@[simp] theorem moveX_ap : moveX j S = slMove j S[j]? S := rfl
@[simp] theorem opx_ap : opx j S = slOpx j S[j]? S := rfl
@[simp] theorem slV_v : slV (some (.val x)) S = .ok x S := rfl
@[simp] theorem slShare_o : slShare j (some (.own x)) S = .ok x (S.set j (.val x)) := rfl
@[simp] theorem slShare_v : slShare j (some (.val x)) S = .ok x S := rfl
@[simp] theorem slMove_o : slMove j (some (.own x)) S = .ok (.l x) (S.set j .no) := rfl
@[simp] theorem slMove_v : slMove j (some (.val x)) S = .ok (.v x) S := rfl
@[simp] theorem slOpx_v : slOpx j (some (.val x)) S = .ok (.v x) S := rfl
@[simp] theorem slOpx_o : slOpx j (some (.own x)) S = .ok (.s j) S := rfl
@[simp] theorem slOpx_i : slOpx j (some (.io x)) S = .ok (.s j) S := rfl
def kOpv (x : PV) (S1 : Sk) : R OV := .ok (.v x) S1
@[simp] theorem opv_ap : opv f S = (f S).bind kOpv := rfl
@[simp] theorem kOpv_ap : kOpv x S = .ok (.v x) S := rfl
def slLook (s : Option Sl) : Option PV := match s with
  | some (.own x) => some x
  | some (.io x) => some x
  | _ => none
@[simp] theorem look_v : look S (.v x) = some x := rfl
@[simp] theorem look_s : look S (.s j) = slLook S[j]? := rfl
@[simp] theorem getO_ap : getO S j = slLook S[j]? := rfl
@[simp] theorem slLook_o : slLook (some (.own x)) = some x := rfl
@[simp] theorem slLook_i : slLook (some (.io x)) = some x := rfl
def slPut (S : Sk) (j : Nat) (x : PV) (s : Option Sl) : Sk := match s with
  | some (.own _) => S.set j (.own x)
  | some (.io _) => S.set j (.io x)
  | _ => S
@[simp] theorem putO_ap : putO S j x = slPut S j x S[j]? := rfl
@[simp] theorem slPut_o : slPut S j x (some (.own y)) = S.set j (.own x) := rfl
@[simp] theorem slPut_i : slPut S j x (some (.io y)) = S.set j (.io x) := rfl
def slUnp (s : Option Sl) : Bool := match s with
  | some s => !pinned s
  | none => false
@[simp] theorem unpinned_ap : unpinned S j = slUnp S[j]? := rfl
@[simp] theorem slUnp_no : slUnp (some .no) = true := rfl
@[simp] theorem slUnp_v : slUnp (some (.val x)) = true := rfl
@[simp] theorem slUnp_o : slUnp (some (.own x)) = true := rfl
def kEnd (r : Option PV) (S1 : Sk) : R PV := match r with
  | some z => .ok z S1
  | none => .stuck
@[simp] theorem kEnd_s : kEnd (some z) S = .ok z S := rfl
def kOp1 (sem : PV → Option PV) (c : Option PV) (S1 : Sk) : R PV := match c with
  | some p => kEnd (sem p) S1
  | none => .stuck
def kOp1a (sem : PV → Option PV) (x : OV) (S1 : Sk) : R PV := kOp1 sem (look S1 x) S1
@[simp] theorem op1_ap (sem : PV → Option PV) : op1 sem fo S = (fo S).bind (kOp1a sem) := rfl
@[simp] theorem kOp1a_ap (sem : PV → Option PV) : kOp1a sem o S = kOp1 sem (look S o) S := rfl
@[simp] theorem kOp1_s (sem : PV → Option PV) : kOp1 sem (some p) S = kEnd (sem p) S := rfl
def kOp2 (sem : PV → PV → Option PV) (c d : Option PV) (S1 : Sk) : R PV := match c, d with
  | some p, some q => kEnd (sem p q) S1
  | _, _ => .stuck
def kOp2b (sem : PV → PV → Option PV) (x y : OV) (S2 : Sk) : R PV := kOp2 sem (look S2 x) (look S2 y) S2
def kOp2a (sem : PV → PV → Option PV) (fb : Sk → R OV) (x : OV) (S1 : Sk) : R PV := (fb S1).bind (kOp2b sem x)
@[simp] theorem op2_ap (sem : PV → PV → Option PV) : op2 sem fo fo2 S = (fo S).bind (kOp2a sem fo2) := rfl
@[simp] theorem kOp2a_ap (sem : PV → PV → Option PV) : kOp2a sem fo2 o S = (fo2 S).bind (kOp2b sem o) := rfl
@[simp] theorem kOp2b_ap (sem : PV → PV → Option PV) : kOp2b sem o o2 S = kOp2 sem (look S o) (look S o2) S := rfl
@[simp] theorem kOp2_s (sem : PV → PV → Option PV) : kOp2 sem (some p) (some q) S = kEnd (sem p q) S := rfl
def kEndX (r : Option RV) (S1 : Sk) : R RV := match r with
  | some z => .ok z S1
  | none => .stuck
@[simp] theorem kEndX_s (r : RV) : kEndX (some r) S = .ok r S := rfl
def kX2 (sem : PV → PV → Option RV) (c d : Option PV) (S1 : Sk) : R RV := match c, d with
  | some p, some q => kEndX (sem p q) S1
  | _, _ => .stuck
def kX2b (sem : PV → PV → Option RV) (x y : OV) (S2 : Sk) : R RV := kX2 sem (look S2 x) (look S2 y) S2
def kX2a (sem : PV → PV → Option RV) (fb : Sk → R OV) (x : OV) (S1 : Sk) : R RV := (fb S1).bind (kX2b sem x)
@[simp] theorem op2X_ap (sem : PV → PV → Option RV) : op2X sem fo fo2 S = (fo S).bind (kX2a sem fo2) := rfl
@[simp] theorem kX2a_ap (sem : PV → PV → Option RV) : kX2a sem fo2 o S = (fo2 S).bind (kX2b sem o) := rfl
@[simp] theorem kX2b_ap (sem : PV → PV → Option RV) : kX2b sem o o2 S = kX2 sem (look S o) (look S o2) S := rfl
@[simp] theorem kX2_s (sem : PV → PV → Option RV) : kX2 sem (some p) (some q) S = kEndX (sem p q) S := rfl
/-- slices -/
def kSlE (lo hi : Option Int) (c : Option PV) (S3 : Sk) : R RV := match c with
  | some p => kEndX (sSlX p lo hi) S3
  | none => .stuck
def kSlC (x : OV) (lo hi : Option Int) (S3 : Sk) : R RV := kSlE lo hi (look S3 x) S3
def kSlB (u : Sk → R (Option Int)) (x : OV) (lo : Option Int) (S2 : Sk) : R RV := (u S2).bind (kSlC x lo)
def kSlA (l u : Sk → R (Option Int)) (x : OV) (S1 : Sk) : R RV := (l S1).bind (kSlB u x)
section
variable {l u : Sk → R (Option Int)} {lo hi : Option Int}
@[simp] theorem slX_ap : slX fo l u S = (fo S).bind (kSlA l u) := rfl
@[simp] theorem kSlA_ap : kSlA l u o S = (l S).bind (kSlB u o) := rfl
@[simp] theorem kSlB_ap : kSlB u o lo S = (u S).bind (kSlC o lo) := rfl
@[simp] theorem kSlC_ap : kSlC o lo hi S = kSlE lo hi (look S o) S := rfl
@[simp] theorem kSlE_ap : kSlE lo hi (some p) S = kEndX (sSlX p lo hi) S := rfl
@[simp] theorem pNone_ap : pNone S = .ok none S := rfl
def kSome (x : PV) (S1 : Sk) : R (Option Int) := match x with
  | .int i => .ok (some i) S1
  | _ => .stuck
@[simp] theorem pSome_ap : pSome f S = (f S).bind kSome := rfl
@[simp] theorem kSome_ap (i : Int) : kSome (.int i) S = .ok (some i) S := rfl
end
/-- arguments -/
def kCons2 (o : OV) (os : List OV) (S2 : Sk) : R (List OV) := .ok (o :: os) S2
def kCons1 (r : Sk → R (List OV)) (o : OV) (S1 : Sk) : R (List OV) := (r S1).bind (kCons2 o)
@[simp] theorem aNil_ap : aNil S = .ok [] S := rfl
@[simp] theorem aCons_ap : aCons fo fa S = (fo S).bind (kCons1 fa) := rfl
@[simp] theorem kCons1_ap : kCons1 fa o S = (fa S).bind (kCons2 o) := rfl
@[simp] theorem kCons2_ap : kCons2 o os S = .ok (o :: os) S := rfl
@[simp] theorem valsOf_nil : valsOf [] = some [] := rfl
@[simp] theorem valsOf_cons : valsOf (.v x :: os) = (valsOf os).map (x :: ·) := rfl
def lookC (a : Option PV) (b : Option (List PV)) : Option (List PV) := match a, b with
  | some x, some xs => some (x :: xs)
  | _, _ => none
@[simp] theorem lookAll_nil : lookAll S [] = some [] := rfl
@[simp] theorem lookAll_cons : lookAll S (o :: os) = lookC (look S o) (lookAll S os) := rfl
@[simp] theorem lookC_s (xs : List PV) : lookC (some x) (some xs) = some (x :: xs) := rfl
def kA2 (sem : List PV → Option PV) (c : Option (List PV)) (S1 : Sk) : R PV := match c with
  | some ps => kEnd (sem ps) S1
  | none => .stuck
def kA1 (sem : List PV → Option PV) (os : List OV) (S1 : Sk) : R PV := kA2 sem (lookAll S1 os) S1
@[simp] theorem opA_ap (sem : List PV → Option PV) : opA sem fa S = (fa S).bind (kA1 sem) := rfl
@[simp] theorem kA1_ap (sem : List PV → Option PV) : kA1 sem os S = kA2 sem (lookAll S os) S := rfl
@[simp] theorem kA2_s (sem : List PV → Option PV) (ps : List PV) : kA2 sem (some ps) S = kEnd (sem ps) S := rfl
def kDisp2 (mk : List PV → PV) (c : Option (List PV)) (S1 : Sk) : R PV := match c with
  | some xs => if xs.length ≤ 16777216 then .ok (mk xs) S1 else .stuck
  | none => .stuck
def kDisp (mk : List PV → PV) (os : List OV) (S1 : Sk) : R PV := kDisp2 mk (valsOf os) S1
@[simp] theorem dispF_ap (mk : List PV → PV) : dispF mk fa S = (fa S).bind (kDisp mk) := rfl
@[simp] theorem kDisp_ap (mk : List PV → PV) : kDisp mk os S = kDisp2 mk (valsOf os) S := rfl
@[simp] theorem kDisp2_s (mk : List PV → PV) (xs : List PV) : kDisp2 mk (some xs) S = if xs.length ≤ 16777216 then .ok (mk xs) S else .stuck := rfl
@[simp] theorem isiF_ap (T : Ty) : isiF T fo S = (fo S).bind (kOp1a fun x => some (.bl (isTy T x))) := rfl
/-- tests -/
def kTst (x : PV) (S1 : Sk) : R Bool := match x with
  | .bl b => .ok b S1
  | _ => .stuck
@[simp] theorem tst_ap : tst f S = (f S).bind kTst := rfl
@[simp] theorem kTst_ap (b : Bool) : kTst (.bl b) S = .ok b S := rfl
def kTAnd (g : Sk → R Bool) (b : Bool) (S1 : Sk) : R Bool := if b = true then g S1 else .ok false S1
def kTOr (g : Sk → R Bool) (b : Bool) (S1 : Sk) : R Bool := if b = true then .ok true S1 else g S1
def kTNot (b : Bool) (S1 : Sk) : R Bool := .ok (!b) S1
@[simp] theorem tAndF_ap : tAndF ft ft2 S = (ft S).bind (kTAnd ft2) := rfl
@[simp] theorem tOrF_ap : tOrF ft ft2 S = (ft S).bind (kTOr ft2) := rfl
@[simp] theorem tNotF_ap : tNotF ft S = (ft S).bind kTNot := rfl
@[simp] theorem kTAnd_t : kTAnd ft true S = ft S := rfl
@[simp] theorem kTAnd_f : kTAnd ft false S = .ok false S := rfl
@[simp] theorem kTOr_t : kTOr ft true S = .ok true S := rfl
@[simp] theorem kTOr_f : kTOr ft false S = ft S := rfl
@[simp] theorem kTNot_ap (b : Bool) : kTNot b S = .ok (!b) S := rfl
def kVAnd (g : Sk → R PV) (x : PV) (S1 : Sk) : R PV := match x with
  | .bl true => g S1
  | .bl false => .ok (.bl false) S1
  | _ => .stuck
def kVOr (g : Sk → R PV) (x : PV) (S1 : Sk) : R PV := match x with
  | .bl true => .ok (.bl true) S1
  | .bl false => g S1
  | _ => .stuck
def kVNot (x : PV) (S1 : Sk) : R PV := match x with
  | .bl b => .ok (.bl (!b)) S1
  | _ => .stuck
@[simp] theorem vAndF_ap : vAndF f f2 S = (f S).bind (kVAnd f2) := rfl
@[simp] theorem vOrF_ap : vOrF f f2 S = (f S).bind (kVOr f2) := rfl
@[simp] theorem vNotF_ap : vNotF f S = (f S).bind kVNot := rfl
@[simp] theorem kVAnd_t : kVAnd f (.bl true) S = f S := rfl
@[simp] theorem kVAnd_f : kVAnd f (.bl false) S = .ok (.bl false) S := rfl
@[simp] theorem kVOr_t : kVOr f (.bl true) S = .ok (.bl true) S := rfl
@[simp] theorem kVOr_f : kVOr f (.bl false) S = f S := rfl
@[simp] theorem kVNot_ap (b : Bool) : kVNot (.bl b) S = .ok (.bl (!b)) S := rfl
def kIf (g h : Sk → R PV) (b : Bool) (S1 : Sk) : R PV := if b = true then g S1 else h S1
@[simp] theorem ifF_ap : ifF ft f f2 S = (ft S).bind (kIf f f2) := rfl
@[simp] theorem kIf_t : kIf f f2 true S = f S := rfl
@[simp] theorem kIf_f : kIf f f2 false S = f2 S := rfl
/-- targets -/
@[simp] theorem gSet_ap : gSet i x S = if unpinned S i = true then some (S.set i (.val x)) else none := rfl
def oGs (r : List PV → Sk → Option Sk) (xs : List PV) (s : Option Sk) : Option Sk := match s with
  | some S1 => r xs S1
  | none => none
@[simp] theorem gsNil_ap : gsNil [] S = some S := rfl
@[simp] theorem gsCons_ap (g : PV → Sk → Option Sk) (r : List PV → Sk → Option Sk) (xs : List PV) : gsCons g r (x :: xs) S = oGs r xs (g x S) := rfl
@[simp] theorem oGs_s (r : List PV → Sk → Option Sk) (xs : List PV) : oGs r xs (some S) = r xs S := rfl
@[simp] theorem gTupF_ap (n : Nat) (g : List PV → Sk → Option Sk) (xs : List PV) : gTupF n g (.tup xs) S = if xs.length = n then g xs S else none := rfl
/-- a method of a list of ours -/
def kMut2 (j : Nat) (sem : PV → List PV → Option (PV × PV)) (c : Option PV) (a : Option (List PV)) (S1 : Sk) : R PV := match c, a with
  | some c, some ps => (match sem c ps with
    | some (z, c') => .ok z (putO S1 j c')
    | none => .stuck)
  | _, _ => .stuck
def kMut1 (j : Nat) (ag : Sk → List OV → Option (List PV)) (sem : PV → List PV → Option (PV × PV)) (os : List OV) (S1 : Sk) : R PV := kMut2 j sem (getO S1 j) (ag S1 os) S1
def kMut0 (j : Nat) (ag : Sk → List OV → Option (List PV)) (sem : PV → List PV → Option (PV × PV)) (fa : Sk → R (List OV)) (c : Option PV) (S : Sk) : R PV := match c with
  | some (.lst _) => (fa S).bind (kMut1 j ag sem)
  | _ => .stuck
section
variable {ag : Sk → List OV → Option (List PV)} {sem : PV → List PV → Option (PV × PV)} {xs ps : List PV}
@[simp] theorem mutF_ap : mutF j ag sem fa S = kMut0 j ag sem fa (getO S j) S := rfl
@[simp] theorem kMut0_ap : kMut0 j ag sem fa (some (.lst xs)) S = (fa S).bind (kMut1 j ag sem) := rfl
@[simp] theorem kMut1_ap : kMut1 j ag sem os S = kMut2 j sem (getO S j) (ag S os) S := rfl
def kMut3 (j : Nat) (r : Option (PV × PV)) (S1 : Sk) : R PV := match r with
  | some (z, c') => .ok z (putO S1 j c')
  | none => .stuck
@[simp] theorem kMut2_ap : kMut2 j sem (some p) (some ps) S = kMut3 j (sem p ps) S := rfl
@[simp] theorem kMut3_ap : kMut3 j (some (z, p)) S = .ok z (putO S j p) := rfl
@[simp] theorem agV_ap : agV S os = valsOf os := rfl
end
/-- what is walked -/
def kSeqL (j : Nat) (c : Option PV) (S1 : Sk) : R (List PV × Option Nat) := match c with
  | some (.lst xs) => .ok (xs, some j) S1
  | _ => .stuck
def kSeq (o : OV) (S1 : Sk) : R (List PV × Option Nat) := match o with
  | .v (.lst xs) => .ok (xs, none) S1
  | .v (.tup xs) => .ok (xs, none) S1
  | .v (.scr ns) => .ok (ns.map .int, none) S1
  | .v (.str z) => .ok (chrP z, none) S1
  | .s j => kSeqL j (getO S1 j) S1
  | _ => .stuck
theorem seqI_ap' : seqI fo S = (fo S).bind kSeq := by
  unfold seqI
  congr 1
section
variable {xs ys ps : List PV}
@[simp] theorem seqI_ap : seqI fo S = (fo S).bind kSeq := seqI_ap'
@[simp] theorem kSeq_l : kSeq (.v (.lst xs)) S = .ok (xs, none) S := rfl
@[simp] theorem kSeq_t : kSeq (.v (.tup xs)) S = .ok (xs, none) S := rfl
@[simp] theorem kSeq_c (ns : List Int) : kSeq (.v (.scr ns)) S = .ok (ns.map .int, none) S := rfl
@[simp] theorem kSeq_s : kSeq (.s j) S = kSeqL j (getO S j) S := rfl
@[simp] theorem kSeqL_s : kSeqL j (some (.lst xs)) S = .ok (xs, some j) S := rfl
def kArg2 (r : Option (List PV)) (S1 : Sk) : R (List PV × Option Nat) := match r with
  | some ys => .ok (ys, none) S1
  | none => .stuck
def kArg1 (sem : List PV → Option (List PV)) (c : Option (List PV)) (S1 : Sk) : R (List PV × Option Nat) := match c with
  | some xs => kArg2 (sem xs) S1
  | none => .stuck
def kArg (sem : List PV → Option (List PV)) (os : List OV) (S1 : Sk) : R (List PV × Option Nat) := kArg1 sem (valsOf os) S1
@[simp] theorem argI_ap (sem : List PV → Option (List PV)) : argI sem fa S = (fa S).bind (kArg sem) := rfl
@[simp] theorem kArg_ap (sem : List PV → Option (List PV)) : kArg sem os S = kArg1 sem (valsOf os) S := rfl
@[simp] theorem kArg1_s (sem : List PV → Option (List PV)) : kArg1 sem (some xs) S = kArg2 (sem xs) S := rfl
@[simp] theorem kArg2_s : kArg2 (some ys) S = .ok (ys, none) S := rfl
end
/-- calls -/
def kCall {α : Type} (fn : Fn) (pick : RV → Option α) (os : List OV) (S1 : Sk) : R α := if (slotsOf os).Nodup then (match argsOf S1 os with
  | none => .stuck
  | some args => (match fn args with
    | .stuck => .stuck
    | .ok r outs => (match pick r, putOuts S1 os outs with
      | some x, some S2 => .ok x S2
      | _, _ => .stuck)
    | .exc e outs => (match putOuts S1 os outs with
      | some S2 => .exc e S2
      | none => .stuck))) else .stuck
def kCallX (fn : Fn) : List OV → Sk → R RV := kCall fn some
@[simp] theorem callX_ap (fn : Fn) : callX fn fa S = (fa S).bind (kCallX fn) := rfl
def kFor (g : PV → Sk → Option Sk) (F : Sk → O) (r : List PV × Option Nat) (S1 : Sk) : O := (loopF g F r.1 (hideL (mkLd S1 r.2) S1)).give (mkLd S1 r.2)
@[simp] theorem forF_ap (fi : Sk → R (List PV × Option Nat)) (g : PV → Sk → Option Sk) : forF fi g F S = (fi S).toO (kFor g F) := rfl
/-- over what is not ours -/
theorem kFor_ap (g : PV → Sk → Option Sk) (xs : List PV) : kFor g F (xs, none) S = loopF g F xs S := by
  show (loopF g F xs S).give none = _
  cases loopF g F xs S <;> rfl
@[simp] theorem mkFn_ap (np n : Nat) (B : Sk → O) (args : List Sl) : mkFn np n B args = if args.length = np then (B (args ++ List.replicate (n - np) .no)).toFR args else .stuck := rfl
@[simp] theorem toFR_rt (args : List Sl) (r : RV) : (O.rt r S).toFR args = if ioOk args S = true then .ok r S else .stuck := rfl
@[simp] theorem toFR_nx (args : List Sl) : (O.nx S).toFR args = if ioOk args S = true then .ok (.v .non) S else .stuck := rfl
@[simp] theorem ioOk_nil : ioOk [] S = true := rfl
@[simp] theorem ioOk_v (as : List Sl) (s : Sl) : ioOk (.val x :: as) (s :: S) = ioOk as S := by cases s <;> rfl
@[simp] theorem ioOk_i (as : List Sl) : ioOk (.io x :: as) (.io y :: S) = ioOk as S := rfl
end
theorem pOk_int (i : Int) : pOk (.int i) = true := rfl
theorem pOk_bl (i : Bool) : pOk (.bl i) = true := rfl
theorem pOk_non : pOk .non = true := rfl
@[simp] theorem sEq_int (a b : Int) : sEq (.int a) (.int b) = some (.bl (decide (a = b))) := by
  unfold sEq
  rw [if_pos ⟨pOk_int a, pOk_int b⟩]
  simp [pEqv, toPD, PyData.eqv]
  by_cases h : a = b <;> simp [h]
@[simp] theorem sNe_int (a b : Int) : sNe (.int a) (.int b) = some (.bl (!decide (a = b))) := by
  unfold sNe
  rw [if_pos ⟨pOk_int a, pOk_int b⟩]
  simp [pEqv, toPD, PyData.eqv]
  by_cases h : a = b <;> simp [h]
@[simp] theorem sEq_bl (a b : Bool) : sEq (.bl a) (.bl b) = some (.bl (decide (a = b))) := by
  unfold sEq
  rw [if_pos ⟨pOk_bl a, pOk_bl b⟩]
  cases a <;> cases b <;> rfl
@[simp] theorem sNe_bl (a b : Bool) : sNe (.bl a) (.bl b) = some (.bl (!decide (a = b))) := by
  unfold sNe
  rw [if_pos ⟨pOk_bl a, pOk_bl b⟩]
  cases a <;> cases b <;> rfl
@[simp] theorem sOrd_lt (a b : Int) : sOrd .Lt (.int a) (.int b) = some (.bl (decide (a < b))) := by
  unfold sOrd
  rw [if_pos ⟨pOk_int a, pOk_int b⟩]
  rfl
@[simp] theorem sOrd_le (a b : Int) : sOrd .LtE (.int a) (.int b) = some (.bl (decide (a ≤ b))) := by
  unfold sOrd
  rw [if_pos ⟨pOk_int a, pOk_int b⟩]
  rfl
@[simp] theorem sOrd_gt (a b : Int) : sOrd .Gt (.int a) (.int b) = some (.bl (decide (b < a))) := by
  unfold sOrd
  rw [if_pos ⟨pOk_int a, pOk_int b⟩]
  rfl
@[simp] theorem sOrd_ge (a b : Int) : sOrd .GtE (.int a) (.int b) = some (.bl (decide (b ≤ a))) := by
  unfold sOrd
  rw [if_pos ⟨pOk_int a, pOk_int b⟩]
  rfl
@[simp] theorem sAddX_int (a b : Int) : sAddX (.int a) (.int b) = some (.v (.int (a + b))) := rfl
@[simp] theorem sSub_int (a b : Int) : sSub (.int a) (.int b) = some (.int (a - b)) := rfl
@[simp] theorem sIntAdd (a b : Int) : sInt yes2 (fun i j => i + j) (.int a) (.int b) = some (.int (a + b)) := rfl
@[simp] theorem sIntSub (a b : Int) : sInt yes2 (fun i j => i - j) (.int a) (.int b) = some (.int (a - b)) := rfl
theorem sMod_int {a b : Int} (h : 0 < b) : sMod (.int a) (.int b) = some (.int (a % b)) := by
  show (if dMod a b = true then _ else _) = _
  rw [if_pos (show dMod a b = true from decide_eq_true h)]
theorem sDiv_int {a b : Int} (h : 0 < b) (h2 : b.natAbs.log2 < 9000) : sDiv (.int a) (.int b) = some (.int (a / b)) := by
  show (if dDiv a b = true then _ else _) = _
  rw [if_pos (show dDiv a b = true from decide_eq_true ⟨h, h2⟩)]
theorem sMul_int {a b : Int} (h : (-(2 ^ 64) < a ∧ a < 2 ^ 64) ∨ (-(2 ^ 64) < b ∧ b < 2 ^ 64) ∨ a.natAbs.log2 + b.natAbs.log2 < 1000000) : sMul (.int a) (.int b) = some (.int (a * b)) := by
  show (if dMul a b = true then _ else _) = _
  rw [if_pos (show dMul a b = true from decide_eq_true h)]
theorem sMul_left {a b : Int} (h : -(2 ^ 64) < a) (h2 : a < 2 ^ 64) : sMul (.int a) (.int b) = some (.int (a * b)) := sMul_int (.inl ⟨h, h2⟩)
theorem sMul_right {a b : Int} (h : -(2 ^ 64) < b) (h2 : b < 2 ^ 64) : sMul (.int a) (.int b) = some (.int (a * b)) := sMul_int (.inr (.inl ⟨h, h2⟩))
theorem sPow_int {a b : Int} (h : 0 ≤ b) (h2 : b ≤ 1000000) (h3 : a.natAbs < 2 ^ 64) : sPow (.int a) (.int b) = some (.int (a ^ b.toNat)) := by
  show (if dPow a b = true then _ else _) = _
  rw [if_pos (show dPow a b = true from decide_eq_true ⟨h, h2, h3⟩)]
theorem sShl_int {a b : Int} (h : 0 ≤ b) (h2 : b ≤ 1000000) (h3 : a.natAbs < 2 ^ 64) : sShl (.int a) (.int b) = some (.int (a * 2 ^ b.toNat)) := by
  show (if dPow a b = true then _ else _) = _
  rw [if_pos (show dPow a b = true from decide_eq_true ⟨h, h2, h3⟩)]
@[simp] theorem sAbs_int (a : Int) : sAbs [.int a] = some (.int (if a < 0 then -a else a)) := rfl
@[simp] theorem sToInt_int (a : Int) : sToInt [.int a] = some (.int a) := rfl
@[simp] theorem sMax2_int (a b : Int) : sMax2 [.int a, .int b] = some (.int (if b > a then b else a)) := rfl
@[simp] theorem sMin2_int (a b : Int) : sMin2 [.int a, .int b] = some (.int (if b < a then b else a)) := rfl
@[simp] theorem sLen_tup (xs : List PV) : sLen [.tup xs] = some (.int xs.length) := rfl
@[simp] theorem sLen_lst (xs : List PV) : sLen [.lst xs] = some (.int xs.length) := rfl
@[simp] theorem sLen_scr (xs : List Int) : sLen [.scr xs] = some (.int xs.length) := rfl
@[simp] theorem sIs_non (neg : Bool) (x : PV) : sIs neg x .non = some (.bl (if neg = true then !isNon x else isNon x)) := by
  unfold sIs
  cases neg <;> rfl
@[simp] theorem isNon_int (i : Int) : isNon (.int i) = false := rfl
@[simp] theorem isNon_bl (i : Bool) : isNon (.bl i) = false := rfl
@[simp] theorem isNon_non : isNon .non = true := rfl
@[simp] theorem isNon_tup (xs : List PV) : isNon (.tup xs) = false := rfl
@[simp] theorem isNon_lst (xs : List PV) : isNon (.lst xs) = false := rfl
@[simp] theorem isNon_str (x : Str) : isNon (.str x) = false := rfl
@[simp] theorem sIx0 (x : PV) (xs : List PV) : sIx (.tup (x :: xs)) (.int 0) = some x := by
  show atI (x :: xs) 0 = some x
  unfold atI ixN
  rw [if_pos (Int.le_refl 0), if_pos (by simp)]
  rfl
@[simp] theorem sIx1 (x y : PV) (xs : List PV) : sIx (.tup (x :: y :: xs)) (.int 1) = some y := by
  show atI (x :: y :: xs) 1 = some y
  unfold atI ixN
  rw [if_pos (by omega), if_pos (by simp; omega)]
  rfl
@[simp] theorem sIxL0 (x : PV) (xs : List PV) : sIx (.lst (x :: xs)) (.int 0) = some x := sIx0 x xs
@[simp] theorem sIxL1 (x y : PV) (xs : List PV) : sIx (.lst (x :: y :: xs)) (.int 1) = some y := sIx1 x y xs
theorem sIx_tup (xs : List PV) (i : Int) : sIx (.tup xs) (.int i) = atI xs i := rfl

/-! ### calls by values -/
/-- with values alone it gives r -/
def Gv (fn : Fn) (args : List PV) (r : RV) : Prop := ∃ outs, fn (args.map Sl.val) = .ok r outs ∧ args.length ≤ outs.length
theorem argsOf_vals (S : Sk) : ∀ xs : List PV, argsOf S (xs.map OV.v) = some (xs.map Sl.val)
  | [] => rfl
  | x :: xs => by
    show (match argOf S (.v x), argsOf S (xs.map OV.v) with
      | some a, some as => some (a :: as)
      | _, _ => none) = _
    rw [argsOf_vals S xs]
    rfl
theorem slots_vals : ∀ xs : List PV, slotsOf (xs.map OV.v) = []
  | [] => rfl
  | x :: xs => slots_vals xs
theorem putOuts_vals (S : Sk) : ∀ (xs : List PV) (outs : List Sl), xs.length ≤ outs.length → putOuts S (xs.map OV.v) outs = some S
  | [], outs, _ => by unfold putOuts; rfl
  | x :: xs, [], h => by cases h
  | x :: xs, o :: outs, h => putOuts_vals S xs outs (Nat.le_of_succ_le_succ h)
theorem call_vals {fn : Fn} {S1 : Sk} {xs : List PV} {r : RV} (hg : Gv fn xs r) : kCallX fn (xs.map OV.v) S1 = .ok r S1 := by
  obtain ⟨outs, h1, h2⟩ := hg
  unfold kCallX kCall
  rw [slots_vals, if_pos List.nodup_nil, argsOf_vals]
  dsimp only
  rw [h1]
  dsimp only
  rw [putOuts_vals S1 xs outs h2]
theorem call1 {fn : Fn} {S1 : Sk} {x : PV} {r : RV} (hg : Gv fn [x] r) : kCallX fn [.v x] S1 = .ok r S1 := call_vals hg
theorem call2 {fn : Fn} {S1 : Sk} {x y : PV} {r : RV} (hg : Gv fn [x, y] r) : kCallX fn [.v x, .v y] S1 = .ok r S1 := call_vals hg
theorem call3 {fn : Fn} {S1 : Sk} {x y z : PV} {r : RV} (hg : Gv fn [x, y, z] r) : kCallX fn [.v x, .v y, .v z] S1 = .ok r S1 := call_vals hg
theorem call4 {fn : Fn} {S1 : Sk} {x y z u : PV} {r : RV} (hg : Gv fn [x, y, z, u] r) : kCallX fn [.v x, .v y, .v z, .v u] S1 = .ok r S1 := call_vals hg
/-- the first goes by its slot -/
theorem call_io {fn : Fn} {S1 : Sk} {j : Nat} {c c' : PV} {xs : List PV} {r : RV} {outs : List Sl} (hc : getO S1 j = some c) (hf : fn (.io c :: xs.map Sl.val) = .ok r (.io c' :: outs)) (hl : xs.length ≤ outs.length) :
    kCallX fn (.s j :: xs.map OV.v) S1 = .ok r (putO S1 j c') := by
  unfold kCallX kCall
  have e1 : slotsOf (OV.s j :: xs.map OV.v) = [j] := congrArg (j :: ·) (slots_vals xs)
  have e2 : argsOf S1 (OV.s j :: xs.map OV.v) = some (.io c :: xs.map Sl.val) := by
    show (match (getO S1 j).map Sl.io, argsOf S1 (xs.map OV.v) with
      | some a, some as => some (a :: as)
      | _, _ => none) = _
    rw [argsOf_vals, hc]
    rfl
  rw [e1, if_pos (show [j].Nodup by simp), e2]
  dsimp only
  rw [hf]
  dsimp only
  rw [show putOuts S1 (OV.s j :: xs.map OV.v) (.io c' :: outs) = putOuts (putO S1 j c') (xs.map OV.v) outs from rfl, putOuts_vals _ xs outs hl]
theorem rngP_zero (lo : Int) : rngP lo 0 = [] := rfl
theorem rngP_succ (lo : Int) (n : Nat) : rngP lo (n + 1) = .int lo :: rngP (lo + 1) n := by
  unfold rngP
  rw [List.range_succ_eq_map, List.map_cons, List.map_map]
  congr 1
  · simp
  · apply List.map_congr_left
    intro i _
    show PV.int (lo + ((i + 1 : Nat) : Int)) = .int (lo + 1 + (i : Int))
    congr 1
    omega
theorem rngP_mem {lo : Int} {n : Nat} {x : PV} (h : x ∈ rngP lo n) : ∃ i : Nat, i < n ∧ x = .int (lo + i) := by
  unfold rngP at h
  obtain ⟨i, hi, rfl⟩ := List.mem_map.mp h
  exact ⟨i, List.mem_range.mp hi, rfl⟩
/-- a loop by an invariant that every turn keeps -/
theorem loopF_inv {g : PV → Sk → Option Sk} {F : Sk → O} (P : Sk → Prop) : ∀ (xs : List PV) (S : Sk), P S → (∀ x ∈ xs, ∀ S, P S → ∃ S1 S2, g x S = some S1 ∧ (F S1 = .nx S2 ∨ F S1 = .ct S2) ∧ P S2) → ∃ S', loopF g F xs S = .nx S' ∧ P S'
  | [], S, h, _ => ⟨S, rfl, h⟩
  | x :: xs, S, h, step => by
    obtain ⟨S1, S2, h1, h2, h3⟩ := step x List.mem_cons_self S h
    obtain ⟨S', h4, h5⟩ := loopF_inv P xs S2 h3 fun y hy => step y (List.mem_cons_of_mem _ hy)
    refine ⟨S', ?_, h5⟩
    unfold loopF
    rw [h1]
    dsimp only
    rcases h2 with h2 | h2 <;> (rw [h2]; exact h4)
theorem while_step {c : Sk → R Bool} {F : Sk → O} {S S1 S2 : Sk} (h1 : c S = .ok true S1) (h2 : F S1 = .nx S2) : whileF c F S = whileF c F S2 := by
  rw [whileF_eq, h1, R.toO_ok, if_pos rfl, h2]
theorem while_end {c : Sk → R Bool} {F : Sk → O} {S S1 : Sk} (h1 : c S = .ok false S1) : whileF c F S = .nx S1 := by
  rw [whileF_eq, h1, R.toO_ok, if_neg Bool.false_ne_true]
theorem loop_nil {g : PV → Sk → Option Sk} {F : Sk → O} {S : Sk} : loopF g F [] S = .nx S := rfl
theorem loop_nx {g : PV → Sk → Option Sk} {F : Sk → O} {S S1 S2 : Sk} {x : PV} {xs : List PV} (h1 : g x S = some S1) (h2 : F S1 = .nx S2) : loopF g F (x :: xs) S = loopF g F xs S2 := by
  show (match g x S with
    | none => O.stuck
    | some S1 => match F S1 with
      | .nx S2 => loopF g F xs S2
      | .ct S2 => loopF g F xs S2
      | .bk S2 => .nx S2
      | .rt r S2 => .rt r S2
      | .exc e S2 => .exc e S2
      | .stuck => .stuck) = _
  rw [h1]
  dsimp only
  rw [h2]
theorem loop_rt {g : PV → Sk → Option Sk} {F : Sk → O} {S S1 S2 : Sk} {x : PV} {xs : List PV} {r : RV} (h1 : g x S = some S1) (h2 : F S1 = .rt r S2) : loopF g F (x :: xs) S = .rt r S2 := by
  show (match g x S with
    | none => O.stuck
    | some S1 => match F S1 with
      | .nx S2 => loopF g F xs S2
      | .ct S2 => loopF g F xs S2
      | .bk S2 => .nx S2
      | .rt r S2 => .rt r S2
      | .exc e S2 => .exc e S2
      | .stuck => .stuck) = _
  rw [h1]
  dsimp only
  rw [h2]
def kFka2 (n m : Nat) (is : List Nat) (os ks : List OV) (S2 : Sk) : R (List OV) := if os.length = n ∧ ks.length = m then .ok (gI is (os ++ ks)) S2 else .stuck
def kFka (n m : Nat) (is : List Nat) (fk : Sk → R (List OV)) (os : List OV) (S1 : Sk) : R (List OV) := (fk S1).bind (kFka2 n m is os)
@[simp] theorem fka_ap (n m : Nat) (is : List Nat) (fa fk : Sk → R (List OV)) (S : Sk) : fka n m is fa fk S = (fa S).bind (kFka n m is fk) := rfl
@[simp] theorem kFka_ap (n m : Nat) (is : List Nat) (fk : Sk → R (List OV)) (os : List OV) (S : Sk) : kFka n m is fk os S = (fk S).bind (kFka2 n m is os) := rfl
@[simp] theorem kFka2_ap (n m : Nat) (is : List Nat) (os ks : List OV) (S : Sk) : kFka2 n m is os ks S = if os.length = n ∧ ks.length = m then .ok (gI is (os ++ ks)) S else .stuck := rfl
@[simp] theorem gI_nil {α : Type} (l : List α) : gI [] l = [] := rfl
theorem log2_le {a : Int} {k : Nat} (h : a.natAbs < 2 ^ k) : a.natAbs.log2 ≤ k := by
  by_cases h0 : a.natAbs = 0
  · rw [h0]; exact Nat.zero_le _
  · exact Nat.le_of_lt ((Nat.log2_lt h0).mpr h)
@[simp] theorem sIx_scr (ns : List Int) (i : Int) : sIx (.scr ns) (.int i) = (atI ns i).map .int := by
  unfold sIx
  first | rfl | simp
theorem atI_in {α : Type} {l : List α} {i : Int} (h0 : 0 ≤ i) (h1 : i < l.length) : ∃ x, atI l i = some x := by
  unfold atI ixN
  rw [if_pos h0, if_pos h1]
  exact ⟨l[i.toNat]'(by omega), by simp⟩
end VL

set_option Elab.async false
set_option linter.all false
set_option autoImplicit false
set_option maxRecDepth 100000
set_option maxHeartbeats 4000000
/-! VN: comprehensions, run. -/
namespace VL
open PySem L2
section
variable {g : PV → Sk → Option Sk} {c : Sk → R Bool} {e : Sk → R PV} {vs : List Nat} {f : Sk → R (List PV × Option Nat)} {fo : Sk → R OV} {S S0 S1 S2 T : Sk} {xs ys : List PV} {v j : Nat} {x : PV}
@[simp] theorem wipeS_nil : wipeS S [] = S := rfl
@[simp] theorem wipeS_cons : wipeS S (v :: vs) = wipeS (S.set v .no) vs := rfl
def kvOf (s : Option Sl) : Sl := match s with
  | some (.val x) => .val x
  | _ => .no
@[simp] theorem kvOf_val : kvOf (some (.val x)) = .val x := rfl
@[simp] theorem kvOf_no : kvOf (some .no) = .no := rfl
@[simp] theorem back_nil : back S0 S [] = S := rfl
@[simp] theorem back_cons : back S0 S (v :: vs) = back S0 (S.set v (kvOf S0[v]?)) vs := by
  show back S0 (S.set v (keepVal S0 v)) vs = _
  congr 2
@[simp] theorem yesF_ap : yesF S = .ok true S := rfl
def kGive (ys : List PV) (r : Option Sk) : R PV := match r with
  | some S3 => .ok (.lst ys) S3
  | none => .stuck
@[simp] theorem kGive_s : kGive ys (some S) = .ok (.lst ys) S := rfl
def kComp3 (vs : List Nat) (ld : Ld) (S0 : Sk) (r : R (List PV)) : R PV := match r with
  | .ok ys S2 => if ys.length ≤ 16777216 then kGive ys (giveL ld (back S0 S2 vs)) else .stuck
  | _ => .stuck
@[simp] theorem kComp3_ok (ld : Ld) : kComp3 vs ld S0 (.ok ys S2) = if ys.length ≤ 16777216 then kGive ys (giveL ld (back S0 S2 vs)) else .stuck := rfl
def kComp (g : PV → Sk → Option Sk) (c : Sk → R Bool) (e : Sk → R PV) (vs : List Nat) (r : List PV × Option Nat) (S1 : Sk) : R PV := kComp3 vs (mkLd S1 r.2) (hideL (mkLd S1 r.2) S1) (compL g c e vs r.1 (wipeS (hideL (mkLd S1 r.2) S1) vs))
@[simp] theorem compF_ap : compF f g c e vs S = (f S).bind (kComp g c e vs) := by
  unfold compF
  congr 1
@[simp] theorem kComp_none : kComp g c e vs (xs, none) S = kComp3 vs none S (compL g c e vs xs (wipeS S vs)) := rfl
def kComp4 (g : PV → Sk → Option Sk) (c : Sk → R Bool) (e : Sk → R PV) (vs : List Nat) (xs : List PV) (j : Nat) (S : Sk) (s : Option Sl) : R PV := match s with
  | some s => kComp3 vs (some (j, s)) (S.set j .hid) (compL g c e vs xs (wipeS (S.set j .hid) vs))
  | none => kComp3 vs none S (compL g c e vs xs (wipeS S vs))
@[simp] theorem kComp_some : kComp g c e vs (xs, some j) S = kComp4 g c e vs xs j S S[j]? := by
  have e1 : mkLd S (some j) = (S[j]?).map fun s => (j, s) := rfl
  show kComp3 vs (mkLd S (some j)) (hideL (mkLd S (some j)) S) (compL g c e vs xs (wipeS (hideL (mkLd S (some j)) S) vs)) = _
  rw [e1]
  cases S[j]? <;> rfl
@[simp] theorem kComp4_s (s : Sl) : kComp4 g c e vs xs j S (some s) = kComp3 vs (some (j, s)) (S.set j .hid) (compL g c e vs xs (wipeS (S.set j .hid) vs)) := rfl
def kHid (S : Sk) (j : Nat) (s : Sl) (r : Option Sl) : Option Sk := match r with
  | some .hid => some (S.set j s)
  | _ => none
@[simp] theorem giveL_none : giveL none S = some S := rfl
@[simp] theorem giveL_some (s : Sl) : giveL (some (j, s)) S = kHid S j s S[j]? := rfl
@[simp] theorem kHid_h (s : Sl) : kHid S j s (some .hid) = some (S.set j s) := rfl
/-- no trace left: a filter and a map -/
theorem compL_pure (p : PV → Bool) (h : PV → PV) : ∀ xs : List PV, (∀ x ∈ xs, ∃ S1 S2, g x T = some S1 ∧ c S1 = .ok (p x) S2 ∧ (p x = true → ∃ S3, e S2 = .ok (h x) S3 ∧ wipeS S3 vs = T) ∧ (p x = false → wipeS S2 vs = T)) → compL g c e vs xs T = .ok ((xs.filter p).map h) T
  | [], _ => rfl
  | x :: xs, hs => by
    obtain ⟨S1, S2, h1, h2, h3, h4⟩ := hs x List.mem_cons_self
    have ih := compL_pure p h xs fun y hy => hs y (List.mem_cons_of_mem _ hy)
    unfold compL
    rw [h1]
    dsimp only
    rw [h2, R.bind_ok]
    cases hp : p x with
    | true =>
      obtain ⟨S3, h5, h6⟩ := h3 hp
      rw [if_pos rfl, h5, R.bind_ok, h6, ih, R.bind_ok, List.filter_cons_of_pos hp, List.map_cons]
    | false =>
      rw [if_neg (by decide), h4 hp, ih, List.filter_cons_of_neg (by rw [hp]; decide)]
theorem compL_map {α : Type} (φ h : α → PV) (p : α → Bool) : ∀ xs : List α, (∀ a ∈ xs, ∃ S1 S2, g (φ a) T = some S1 ∧ c S1 = .ok (p a) S2 ∧ (p a = true → ∃ S3, e S2 = .ok (h a) S3 ∧ wipeS S3 vs = T) ∧ (p a = false → wipeS S2 vs = T)) → compL g c e vs (xs.map φ) T = .ok ((xs.filter p).map h) T
  | [], _ => rfl
  | x :: xs, hs => by
    obtain ⟨S1, S2, h1, h2, h3, h4⟩ := hs x List.mem_cons_self
    have ih := compL_map φ h p xs fun y hy => hs y (List.mem_cons_of_mem _ hy)
    rw [List.map_cons]
    unfold compL
    rw [h1]
    dsimp only
    rw [h2, R.bind_ok]
    cases hp : p x with
    | true =>
      obtain ⟨S3, h5, h6⟩ := h3 hp
      rw [if_pos rfl, h5, R.bind_ok, h6, ih, R.bind_ok, List.filter_cons_of_pos hp, List.map_cons]
    | false =>
      rw [if_neg (by decide), h4 hp, ih, List.filter_cons_of_neg (by rw [hp]; decide)]
/-- with a state that is kept by P: those that are taken, and what comes of each -/
theorem compL_inv (P : Sk → Prop) (Rl : PV → PV → Prop) : ∀ (xs : List PV) (T : Sk), P T → (∀ x ∈ xs, ∀ T, P T → ∃ S1 b S2, g x T = some S1 ∧ c S1 = .ok b S2 ∧ (b = true → ∃ y S3, e S2 = .ok y S3 ∧ Rl x y ∧ P (wipeS S3 vs)) ∧ (b = false → P (wipeS S2 vs))) →
    ∃ zs ys T', compL g c e vs xs T = .ok ys T' ∧ P T' ∧ zs.Sublist xs ∧ Paired Rl zs ys
  | [], T, h, _ => ⟨[], [], T, rfl, h, .slnil, .nil⟩
  | x :: xs, T, h, hs => by
    obtain ⟨S1, b, S2, h1, h2, h3, h4⟩ := hs x List.mem_cons_self T h
    unfold compL
    rw [h1]
    dsimp only
    rw [h2, R.bind_ok]
    cases b with
    | true =>
      obtain ⟨y, S3, h5, h6, h7⟩ := h3 rfl
      obtain ⟨zs, ys, T', k1, k2, k3, k4⟩ := compL_inv P Rl xs _ h7 fun z hz => hs z (List.mem_cons_of_mem _ hz)
      refine ⟨x :: zs, y :: ys, T', ?_, k2, .cons₂ x k3, .cons h6 k4⟩
      rw [if_pos rfl, h5, R.bind_ok, k1, R.bind_ok]
    | false =>
      obtain ⟨zs, ys, T', k1, k2, k3, k4⟩ := compL_inv P Rl xs _ (h4 rfl) fun z hz => hs z (List.mem_cons_of_mem _ hz)
      exact ⟨zs, ys, T', by rw [if_neg (by decide), k1], k2, .cons x k3, k4⟩
/-! ### enumerate -/
def kEnumS (j : Nat) (c : Option PV) (S1 : Sk) : R (List PV × Option Nat) := match c with
  | some (.lst xs) => .ok (enumP xs, some j) S1
  | _ => .stuck
def kEnum (o : OV) (S1 : Sk) : R (List PV × Option Nat) := match o with
  | .v (.lst xs) => .ok (enumP xs, none) S1
  | .v (.tup xs) => .ok (enumP xs, none) S1
  | .v (.scr ns) => .ok (enumP (ns.map .int), none) S1
  | .s j => kEnumS j (getO S1 j) S1
  | _ => .stuck
@[simp] theorem enumI_ap : enumI fo S = (fo S).bind kEnum := by
  unfold enumI
  congr 1
@[simp] theorem kEnum_l : kEnum (.v (.lst xs)) S = .ok (enumP xs, none) S := rfl
@[simp] theorem kEnum_t : kEnum (.v (.tup xs)) S = .ok (enumP xs, none) S := rfl
@[simp] theorem kEnum_s : kEnum (.s j) S = kEnumS j (getO S j) S := rfl
@[simp] theorem kEnumS_l : kEnumS j (some (.lst xs)) S = .ok (enumP xs, some j) S := rfl
end
/-! ### tuples of ints -/
theorem lay_ints : ∀ k : List Int, PyData.canLayAll0 (toPDs (k.map PV.int)) = true
  | [] => rfl
  | i :: k => by
    show (true && PyData.canLayAll0 (toPDs (k.map PV.int))) = true
    rw [lay_ints k]
    rfl
theorem dep_ints : ∀ k : List Int, PyData.depthAll (toPDs (k.map PV.int)) = 0
  | [] => rfl
  | i :: k => by
    show max 0 (PyData.depthAll (toPDs (k.map PV.int))) = 0
    rw [dep_ints k]
    rfl
@[simp] theorem pOk_tupI (k : List Int) : pOk (tupI k) = true := by
  show (PyData.canLayAll0 (toPDs (k.map PV.int)) && decide (PyData.depthAll (toPDs (k.map PV.int)) + 1 ≤ 64)) = true
  rw [lay_ints, dep_ints]
  rfl
theorem pOk_lstI (k : List Int) : pOk (.lst (k.map .int)) = true := pOk_tupI k
theorem tupI_inj {a b : List Int} (h : tupI a = tupI b) : a = b := by
  injection h with h
  exact List.map_inj_right (fun x y e => by cases e; rfl) |>.mp h
theorem pEqv_tupI (a b : List Int) : pEqv (tupI a) (tupI b) = decide (a = b) := by
  have h := pEqv_pure (tupI a) (tupI b) (pure_tupI a) (pure_tupI b)
  by_cases e : a = b
  · rw [decide_eq_true e]
    exact h.mpr (by rw [e])
  · rw [decide_eq_false e]
    cases hh : pEqv (tupI a) (tupI b) with
    | false => rfl
    | true => exact absurd (tupI_inj (h.mp hh)) e
theorem sEq_tupI (a b : List Int) : sEq (tupI a) (tupI b) = some (.bl (decide (a = b))) := by
  unfold sEq
  rw [if_pos ⟨pOk_tupI a, pOk_tupI b⟩, pEqv_tupI]
theorem sNe_tupI (a b : List Int) : sNe (tupI a) (tupI b) = some (.bl (!decide (a = b))) := by
  unfold sNe
  rw [if_pos ⟨pOk_tupI a, pOk_tupI b⟩, pEqv_tupI]
theorem pEqv_nil (xs : List PV) : pEqv (.lst xs) (.lst []) = xs.isEmpty := by cases xs <;> rfl
theorem sEq_nilI (k : List Int) : sEq (.lst (k.map .int)) (.lst []) = some (.bl k.isEmpty) := by
  unfold sEq
  rw [if_pos ⟨pOk_lstI k, rfl⟩, pEqv_nil]
  cases k <;> rfl
theorem sNe_nilI (k : List Int) : sNe (.lst (k.map .int)) (.lst []) = some (.bl (!k.isEmpty)) := by
  unfold sNe
  rw [if_pos ⟨pOk_lstI k, rfl⟩, pEqv_nil]
  cases k <;> rfl
theorem pAny_ints (i : Int) : ∀ b : List Int, pAny (.int i) (b.map .int) = decide (i ∈ b)
  | [] => by simp [pAny]
  | j :: b => by
    show (pEqv (.int j) (.int i) || pAny (.int i) (b.map .int)) = _
    rw [pAny_ints i b]
    have : pEqv (.int j) (.int i) = decide (j = i) := by
      simp [pEqv, toPD, PyData.eqv]
      by_cases h : j = i <;> simp [h]
    rw [this]
    by_cases h : j = i
    · simp [h]
    · have h' : ¬ i = j := fun z => h z.symm
      simp [h, h']
theorem sIn_tupI (neg : Bool) (i : Int) (b : List Int) : sIn neg (.int i) (tupI b) = some (.bl (if neg then !decide (i ∈ b) else decide (i ∈ b))) := by
  show (if pOk (.int i) = true ∧ PyData.canLayAll0 (toPDs (b.map PV.int)) = true then some (PV.bl (if neg then !pAny (.int i) (b.map .int) else pAny (.int i) (b.map .int))) else none) = _
  rw [if_pos ⟨pOk_int i, lay_ints b⟩, pAny_ints]
theorem blsOf_mapp {α : Type} (p : α → Bool) : ∀ xs : List α, blsOf (xs.map fun x => PV.bl (p x)) = some (xs.map p)
  | [] => rfl
  | x :: xs => by
    show (blsOf (xs.map fun x => PV.bl (p x))).map (p x :: ·) = _
    rw [blsOf_mapp p xs]
    rfl
theorem sAll_map {α : Type} (p : α → Bool) (xs : List α) : sAll [.lst (xs.map fun x => PV.bl (p x))] = some (.bl (xs.all p)) := by
  show (blsOf (xs.map fun x => PV.bl (p x))).map _ = _
  rw [blsOf_mapp]
  simp [List.all_map]
theorem sAny_map {α : Type} (p : α → Bool) (xs : List α) : sAny [.lst (xs.map fun x => PV.bl (p x))] = some (.bl (xs.any p)) := by
  show (blsOf (xs.map fun x => PV.bl (p x))).map _ = _
  rw [blsOf_mapp]
  simp [List.any_map]
end VL

set_option Elab.async false
set_option linter.all false
set_option autoImplicit false
set_option maxRecDepth 100000
set_option maxHeartbeats 4000000
/-! VNP: a, b = [..], [..]: two new lists, both ours. -/
namespace VL
open PySem L2
section
variable {X : Cx} {W : WX} {fA fB : Sk → R PV} {i j : Nat} {tg e : Expr} {pos : Pos}
def parLF (i j : Nat) (fA fB : Sk → R PV) : Sk → O := fun S => (fA S).toO fun x S1 => (fB S1).toO fun y S2 => if unpinned S2 i = true ∧ unpinned S2 j = true then .nx ((S2.set i (.own x)).set j (.own y)) else .stuck
theorem vs_parL (h : PS X (.Assign [tg] e pos) (tPar i j (tCons (LiftL X.K X.mg W fA) (tCons (LiftL X.K X.mg W fB) tNil)))) : VS X W (.Assign [tg] e pos) (parLF i j fA fB) := by
  refine ⟨PS.imp h fun D σ H ⟨S, R0, q⟩ => ?_⟩
  refine ⟨S, R0, ?_⟩
  unfold parLF at q
  cases hf : fA S with
  | stuck => rw [hf] at q; exact q
  | exc y S1 => rw [hf] at q; exact fun c d H1 er R1 F1 => q c d σ H1 er R1 F1
  | ok x S1 =>
    rw [hf, R.toO_ok] at q
    intro p u H1 h1 h2 h3 h4 R1 F1
    refine ⟨S1, R1, ?_⟩
    cases hg : fB S1 with
    | stuck => rw [hg] at q; exact q
    | exc y S2 => rw [hg] at q; exact fun c d H2 er R2 F2 => q c d σ H2 er R2 (F1.trans F2)
    | ok y S2 =>
      rw [hg, R.toO_ok] at q
      intro p' u' H2 k1 k2 k3 k4 R2 F2
      split at q
      · have z := F2.keep p u h1 h3
        have ne : p' ≠ p := fun e => by
          subst e
          exact h3 (k4 u h1)
        have Ra := R2.setOwn (i := i) z.1 (h2.ext (R1.ext F2)) z.2
        have hn : ¬ Owns (S2.set i (.own x)) (σ.set i (some (.ref p))) p' := fun ⟨k, s, g1, g2, g3⟩ => by
          rw [List.getElem?_set] at g1 g3
          by_cases e : i = k
          · rw [if_pos e] at g3
            split at g3
            · injection g3 with g3
              injection g3 with g3
              injection g3 with g3
              exact ne g3.symm
            · cases g3
          · rw [if_neg e] at g1 g3
            exact k3 ⟨k, s, g1, g2, g3⟩
        have Rb := Ra.setOwn (i := j) k1 k2 hn
        have Fb := ((F1.trans F2).setOwn (i := i) (x := x) h4).setOwn (i := j) (x := y) (p := p') fun o ho => Classical.byContradiction fun hno => by
          have w := F1.keep p' o ho hno
          exact w.2 (k4 o w.1)
        exact ⟨_, _, rfl, q _ H2 Rb Fb⟩
      · exact (show False from q).elim
theorem parL {i j : Nat} {x y : Str} {a b : Expr} {px py pt : Pos} {kt k2 : Nat} {pt2 : Pos} (hc : X.calm = true) (hN : X.N.Nodup) (hij : i ≠ j) (ha : EL X W a fA) (hb : EL X W b fB) (hi : X.N[i]? = some x := by rfl) (hj : X.N[j]? = some y := by rfl)
    (hx : X.env.scope.names.lookup x = some .local := by rfl) (hy : X.env.scope.names.lookup y = some .local := by rfl)
    (hw : swappedStores [.Tuple [.Name x px, .Name y py] kt pt] (.Tuple [a, b] k2 pt2) X.env = pure (some [x, y]) := by rfl)
    (hs : swapsWithSole [.Tuple [.Name x px, .Name y py] kt pt] (.Tuple [a, b] k2 pt2) pos.line X.env = pure false := by rfl)
    (h1 : starEach [a, b] X.env = (false, eval a X.env) :: starEach [b] X.env := by rfl) (h2 : starEach [b] X.env = (false, eval b X.env) :: starEach [] X.env := by rfl) :
    VS X W (.Assign [.Tuple [.Name x px, .Name y py] kt pt] (.Tuple [a, b] k2 pt2) pos) (parLF i j fA fB) := vs_parL (ps_par hc hN hi hj hij hx hy (pa_cons ha.pe (pa_cons hb.pe pa_nil h2) h1) hw hs)
def kParL1 (i j : Nat) (x y : PV) (S2 : Sk) : O := if unpinned S2 i = true ∧ unpinned S2 j = true then .nx ((S2.set i (.own x)).set j (.own y)) else .stuck
def kParL (i j : Nat) (fB : Sk → R PV) (x : PV) (S1 : Sk) : O := (fB S1).toO (kParL1 i j x)
@[simp] theorem parLF_ap {S : Sk} : parLF i j fA fB S = (fA S).toO (kParL i j fB) := rfl
@[simp] theorem kParL_ap {S : Sk} {x : PV} : kParL i j fB x S = (fB S).toO (kParL1 i j x) := rfl
@[simp] theorem kParL1_ap {S : Sk} {x y : PV} : kParL1 i j x y S = if unpinned S i = true ∧ unpinned S j = true then .nx ((S.set i (.own x)).set j (.own y)) else .stuck := rfl
end
end VL

set_option Elab.async false
set_option linter.all false
set_option autoImplicit false
set_option maxRecDepth 100000
set_option maxHeartbeats 4000000
/-! VV: zip in walks, sum of a tuple, a tuple once, a new list so many times, three names at once. -/
namespace L2
open PySem PySem.Spec PyProof.Rows
theorem tuple_mul1 (l : Addr) (items : Array Value) (n : Nat) (dd : Option Addr) (sl : Array (Option Value)) (u : Tok) :
    Meets (Builtin.«tuple.__mul__» ⟨[.ref l, .int 1 u], []⟩) (fun _ R s => s.heap.get? l = some { cls := .type "tuple", dict := dd, data := .seq items n, slots := sl } ∧ R (.ok (.ret (Value.ref l))) s) :=
  .of_wp fun prog w A R s h => by
    obtain ⟨hp, g, d, tk, os⟩ := s
    obtain ⟨hl, h⟩ := h
    have f1 := AutoSeq1.idx_int
    wp_walk using wpAny_loadPart' hl
    exact ⟨_, rfl, h⟩
def rRepT1 (K : PySem.W.Frag) : R2 := fun x y H Q => ∃ l xs, x = .ref l ∧ y = .int 1 ∧ SqT K H l xs ∧ Q (.ref l) H
section
variable {X : Cx}
theorem op_repT1 : OpR X (binaryOp .Mult) (rRepT1 X.K) := by
  intro pins s σ H x y v u Q I rx ry h
  obtain ⟨l, xs, rfl, rfl, hT, q⟩ := h
  cases rx
  obtain ⟨t, rfl⟩ := ry
  obtain ⟨its, r, ⟨⟨cls, dd, data, sl⟩, ho, hc, n, hd⟩, hs⟩ := I.tuple hT
  simp only at hc hd
  subst hc hd
  refine wpAny_binaryOp_repeat_ref (T := "tuple") (U := "int") (by decide) ⟨_, ho, rfl⟩ (fun s' => typeIs_int s' 1 t) noFill_tuple_mul F.fills_int_mul F.slot_int_rmul repeat_tuple F.slot_int_index.lookup
    (call_meets F.slot_int_rmul (typeIs_int s 1 t) F.entry_int_rmul (F.args_int_rmul_2 _ _) (int_rmul_tuple 1 t l its.toArray n dd sl)
      ⟨ho, rfl, ⟨_, ho, rfl⟩, call_meets F.slot_tuple_mul ⟨_, ho, rfl⟩ F.entry_tuple_mul (F.args_tuple_mul_2 _ _) (tuple_mul1 l its.toArray n dd sl t) ⟨ho, ?_⟩⟩)
  exact ⟨.ref l, H, I, rfl, q⟩
def rSumT (K : PySem.W.Frag) : List V → Hp → VK → Prop := fun vs H Q => ∃ (a : Addr) (ns : List Int), vs = [V.ref a] ∧ SqT K H a (ns.map V.int) ∧ Q (.int ns.sum) H
theorem cr_sumT (hc : X.calm = true) : CallR X (.builtin "sum") (rSumT X.K) := by
  intro pins s σ H vs us Q I r h
  obtain ⟨a, ns, rfl, hs, q⟩ := h
  obtain ⟨its, rv, hl, _⟩ := I.tuple hs
  rw [Vals.ref1 r]
  have hi := rv.ints
  obtain ⟨xs, e⟩ := hi.allInts.items
  have hn : numsOf (intItems xs).toList = ns := by rw [← e]; exact hi.numsOf
  rw [nums_intItems] at hn
  rw [e] at hl
  refine PySem.W.ktm_sumG (I.ok.hd hc) hl fun h' tk t' hk => ?_
  rw [preSum_eq, List.take_of_length_le (by simp), hn]
  exact ⟨.int _, H, I.kept hk, ⟨_, rfl⟩, q⟩
end
end L2
namespace VL
open PySem L2
section
variable {X : Cx} {W : WX} {K : PySem.W.Frag} {mg : Str → Option Value} {S S0 S1 S2 S' : Sk} {σ σ1 σ' : St} {H H0 H1 H' : Hp}
/-! ### sum of a list, a tuple -/
def sSum2 : List PV → Option PV
  | [.lst xs] => (intsOf xs).map fun ns => .int ns.sum
  | [.tup xs] => (intsOf xs).map fun ns => .int ns.sum
  | _ => none
theorem s_sum2 : SemA X Out (fun vs H Q => rSum X.K vs H Q ∨ rSumT X.K vs H Q) sSum2 := by
  intro H vs ps z Q h e o
  unfold sSum2 at e
  split at e
  · rename_i xs
    exact .inl (s_sum H vs [.lst xs] z Q h e o)
  · obtain ⟨ns, h3, h4⟩ := Option.map_eq_some_iff.mp e
    cases h4
    have e2 := intsOf_eq h3
    subst e2
    obtain ⟨v, rfl, h1⟩ := rts1 h
    obtain ⟨a, ws, rfl, h2, r⟩ := h1.tup
    rw [r.ints] at h2
    exact .inr ⟨a, ns, rfl, SqT.of h2, o _ H (.int _) (Same.refl H)⟩
  · cases e
theorem cr_sum2 (hc : X.calm = true) : CallR X (.builtin "sum") (fun vs H Q => rSum X.K vs H Q ∨ rSumT X.K vs H Q) := (cr_sum hc).or (cr_sumT hc)
@[simp] theorem sSum2_l (ns : List Int) : sSum2 [.lst (ns.map .int)] = some (.int ns.sum) := by
  show (intsOf (ns.map .int)).map (fun ns : List Int => PV.int ns.sum) = _
  rw [intsOf_map]; rfl
@[simp] theorem sSum2_t (ns : List Int) : sSum2 [.tup (ns.map .int)] = some (.int ns.sum) := by
  show (intsOf (ns.map .int)).map (fun ns : List Int => PV.int ns.sum) = _
  rw [intsOf_map]; rfl
/-! ### a tuple so many times, once too -/
def sMulT : PV → PV → Option PV
  | .tup xs, .int k => if k = 1 then some (.tup xs) else sMul (.tup xs) (.int k)
  | _, _ => none
theorem s_mulT : Sem2 X Out (fun x y H Q => ((rI (fun i j => dMul i j = true) fun i j => .int (i * j)) x y H Q ∨ rRepT X.K x y H Q) ∨ rRepT1 X.K x y H Q) sMulT := by
  intro H x y p q z Q hx hy e o
  unfold sMulT at e
  split at e
  · rename_i xs k
    split at e
    · rename_i h1
      subst h1
      cases e
      obtain ⟨a, vs, rfl, h1, r1⟩ := hx.tup
      exact .inr ⟨a, vs, rfl, hy.int, SqT.of h1, o _ H (.tup h1 r1) (Same.refl H)⟩
    · exact .inl (s_mul H x y _ _ z Q hx hy e o)
  · cases e
theorem op_mulT : OpR X (binaryOp .Mult) (fun x y H Q => ((rI (fun i j => dMul i j = true) fun i j => .int (i * j)) x y H Q ∨ rRepT X.K x y H Q) ∨ rRepT1 X.K x y H Q) := op_mulB.or op_repT1
theorem sMulT_1 (x : PV) {k : Int} (h : 1 ≤ k) (h2 : k ≤ 1000) : sMulT (.tup [x]) (.int k) = some (.tup (List.replicate k.toNat x)) := by
  show (if k = 1 then some (PV.tup [x]) else if [x] ≠ [] ∧ 2 ≤ k ∧ k ≤ 1000 ∧ [x].length ≤ 1000 then some (.tup (List.replicate k.toNat [x]).flatten) else none) = _
  have e : (List.replicate k.toNat [x]).flatten = List.replicate k.toNat x := by
    generalize k.toNat = n
    induction n with
    | zero => rfl
    | succ n ih => rw [List.replicate_succ, List.replicate_succ, List.flatten_cons, ih]; rfl
  by_cases h1 : k = 1
  · subst h1; rfl
  · rw [if_neg h1, if_pos ⟨by simp, by omega, h2, by simp⟩, e]
/-! ### a new list so many times -/
def repS : PV → PV → Option PV
  | .lst xs, .int k => if -(2 ^ 63) ≤ k ∧ k < 2 ^ 63 ∧ xs.length * k.toNat ≤ 16777216 then some (.lst (List.replicate k.toNat xs).flatten) else none
  | _, _ => none
def repL (f : Sk → R PV) (g : Sk → R OV) : Sk → R PV := fun S => (f S).bind fun x S1 => (g S1).bind fun o S2 => match look S2 o with
  | some y => (match repS x y with
    | some z => .ok z S2
    | none => .stuck)
  | none => .stuck
theorem el_rep {a b : Expr} {f : Sk → R PV} {g : Sk → R OV} {pos : Pos} (ha : EL X W a f) (hb : EO X W b g) : EL X W (.BinOp a .Mult b pos) (repL f g) := by
  refine ⟨PE.imp (pe_op op_rep ha.pe hb.pe) fun σ H Q ⟨S, R0, q⟩ => ⟨S, R0, ?_⟩⟩
  unfold repL at q
  cases hf : f S with
  | stuck => rw [hf] at q; exact q
  | exc y S1 => rw [hf] at q; exact q
  | ok x S1 =>
    rw [hf, R.bind_ok] at q
    intro p u H1 h1 h2 h3 h4 R1 F1
    refine ⟨S1, R1, ?_⟩
    cases hg : g S1 with
    | stuck => rw [hg] at q; exact q
    | exc y S2 => rw [hg] at q; exact fun c d H2 er R2 F2 => q c d H2 er R2 (F1.trans F2)
    | ok o S2 =>
      rw [hg, R.bind_ok] at q
      intro v H2 ov R2 F2
      cases hl : look S2 o with
      | none => rw [hl] at q; exact (show False from q).elim
      | some y =>
        rw [hl] at q
        dsimp only at q
        cases hz : repS x y with
        | none => rw [hz] at q; exact (show False from q).elim
        | some z =>
          rw [hz] at q
          unfold repS at hz
          split at hz
          · rename_i xs k
            split at hz
            · rename_i hk
              cases hz
              have z2 := F2.keep p u h1 h3
              have r2 : RepOb X.K H2 u (.lst xs) := h2.ext (R1.ext F2)
              cases u <;> first | exact (show False from r2).elim | skip
              rename_i vs
              have hv : v = .int k := (look_rt R2 ov hl).int
              have r3 : RepA X.K H2 vs xs := r2
              refine ⟨p, k, vs, rfl, hv, z2.1, hk.1, hk.2.1, by rw [r3.length]; exact hk.2.2, fun t ht => ?_⟩
              have sm := same_upd (u := HO.lst (List.replicate k.toNat vs).flatten) ht
              have oo := post_outL (r := .stuck) R2 (F1.trans F2) q
              exact oo t _ _ ht upd_same (show RepA _ _ _ _ from (r3.replicate k.toNat).ext (Ext.of_same sm)) sm
            · cases hz
          · cases hz
/-! ### zip, walked -/
def sZip : List PV → Option (List PV)
  | [.lst xs, .lst ys] => some (zipP xs ys)
  | [.tup xs, .tup ys] => some (zipP xs ys)
  | _ => none
theorem zipW {a b : Expr} {fa : Sk → R (List OV)} {p pos tpos : Pos} {elts : List Expr} {kk : Nat} (hm : X.mg "zip" = none) (ha : EA X W [a, b] fa) (hg : Gl X "zip" := by rfl) (h1 : starEach [a, b] X.env = (false, eval a X.env) :: starEach [b] X.env := by rfl) (h2 : (backTo pos (starEach [b] X.env)).any (·.1) = false := by rfl) :
    EI X W (.Tuple elts kk tpos) (.Call (.Name "zip" p) [a, b] [] pos) (argI sZip fa) := by
  refine ⟨PI.imp (RZ.pi_zipA hg hm ha.pa h1 h2) fun σ H Q h => argI_lift (r := fun vs H1 R => ∃ a b xs ys, vs = [.ref a, .ref b] ∧ ((SqL X.K H1 a xs ∧ SqL X.K H1 b ys ∧ R (Itz X.K a b) H1) ∨ (SqT X.K H1 a xs ∧ SqT X.K H1 b ys ∧ R (RZ.ItzT X.K a b) H1))) (fun H vs xs ys r e q => ?_) h⟩
  unfold sZip at e
  split at e
  · cases e
    obtain ⟨v, w, rfl, r1, r2⟩ := repA2 r
    obtain ⟨a, o, vs, rfl, h1, q1⟩ := rep_lstI r1
    obtain ⟨b, o2, ws, rfl, h2, q2⟩ := rep_lstI r2
    exact ⟨a, b, vs, ws, rfl, .inl ⟨.inl (.inr ⟨o, h1⟩), .inl (.inr ⟨o2, h2⟩), q _ (wp_zip (fun H e _ => .inl (.inr ⟨o, e.frz _ _ _ h1⟩)) (fun H e => RepA.ext e q1) (fun H e _ => .inl (.inr ⟨o2, e.frz _ _ _ h2⟩)) fun H e => RepA.ext e q2)⟩⟩
  · cases e
    obtain ⟨v, w, rfl, r1, r2⟩ := repA2 r
    obtain ⟨a, vs, rfl, h1, q1⟩ := RT.tup (.inl r1)
    obtain ⟨b, ws, rfl, h2, q2⟩ := RT.tup (.inl r2)
    exact ⟨a, b, vs, ws, rfl, .inr ⟨SqT.of h1, SqT.of h2, q _ (wp_zipT h1 q1 h2 q2)⟩⟩
  · cases e
end
end VL

set_option Elab.async false
set_option linter.all false
set_option autoImplicit false
set_option maxRecDepth 100000
set_option maxHeartbeats 4000000
/-! VA: several names at once, new lists among the values. -/
namespace VL
open PySem L2
section
variable {X : Cx} {W : WX} {K : PySem.W.Frag} {mg : Str → Option Value} {S S0 S1 S2 S' : Sk} {σ σ1 σ' : St} {H H0 H1 H2 H' : Hp}
def RV.sl : RV → Sl
  | .v x => .val x
  | .l x => .own x
/-- a value that is held: a new one by nobody yet -/
def Hd (K : PySem.W.Frag) (S : Sk) (σ : St) (H : Hp) : RV → V → Prop
  | .v x, v => Rep K H v x
  | .l x, v => ∃ p u, v = .ref p ∧ H p = some u ∧ RepOb K H u x ∧ ¬ Owns S σ p
def isNew : RV → Bool
  | .l _ => true
  | .v _ => false
theorem Hd.frm {r : RV} {v : V} (h : Hd K S σ H r v) (R0 : RelS K S σ H) (F : Frm S σ H S' σ H') : Hd K S' σ H' r v := by
  cases r with
  | v x => exact Rep.ext (R0.ext F) h
  | l x =>
    obtain ⟨p, u, rfl, h1, h2, h3⟩ := h
    have z := F.keep p u h1 h3
    exact ⟨p, u, rfl, z.1, h2.ext (R0.ext F), z.2⟩
/-- where a new one lies -/
def NewAt (r : RV) (v : V) (p : Addr) : Prop := isNew r = true ∧ v = .ref p
inductive HdL (K : PySem.W.Frag) (S : Sk) (σ : St) (H : Hp) : List RV → List V → Prop
  | nil : HdL K S σ H [] []
  | cons {r : RV} {v : V} {rs : List RV} {vs : List V} : Hd K S σ H r v → (∀ p, NewAt r v p → ∀ (i : Nat) q w, rs[i]? = some q → vs[i]? = some w → ¬ NewAt q w p) → HdL K S σ H rs vs → HdL K S σ H (r :: rs) (v :: vs)
theorem HdL.frm {rs : List RV} {vs : List V} (h : HdL K S σ H rs vs) (R0 : RelS K S σ H) (F : Frm S σ H S' σ H') : HdL K S' σ H' rs vs := by
  induction h with
  | nil => exact .nil
  | cons a b _ ih => exact .cons (a.frm R0 F) b ih
/-- none of them lay anywhere before -/
def Fresh (S0 : Sk) (σ : St) (H0 : Hp) (rs : List RV) (vs : List V) : Prop := ∀ (i : Nat) q w p, rs[i]? = some q → vs[i]? = some w → NewAt q w p → ∀ o, H0 p = some o → Owns S0 σ p
def evX : List (Sk → R RV) → Sk → R (List RV)
  | [], S => .ok [] S
  | f :: fs, S => (f S).bind fun r S1 => (evX fs S1).bind fun rs S2 => .ok (r :: rs) S2
def LiftXs (K : PySem.W.Frag) (mg : Str → Option Value) (W : WX) (fs : List (Sk → R RV)) : TA := fun σ H Q => ∃ S, RelS K S σ H ∧ match evX fs S with
  | .stuck => False
  | .ok rs S' => ∀ vs H', HdL K S' σ H' rs vs → Fresh S σ H rs vs → RelS K S' σ H' → Frm S σ H S' σ H' → Q vs H'
  | .exc e S' => ∀ cls d H', ExnRep K mg H' cls d e → RelS K S' σ H' → Frm S σ H S' σ H' → W cls d σ H'
structure EXs (X : Cx) (W : WX) (es : List Expr) (fs : List (Sk → R RV)) : Prop where
  pa : PA X es (LiftXs X.K X.mg W fs)
theorem exs_nil : EXs X W [] [] := ⟨PA.imp pa_nil fun σ H Q ⟨S, R0, q⟩ => q [] H .nil (fun i q w p h => by simp at h) R0 .refl⟩
theorem exs_cons {e : Expr} {es : List Expr} {f : Sk → R RV} {fs : List (Sk → R RV)} (h : EX X W e f) (hs : EXs X W es fs) (he : starEach (e :: es) X.env = (false, eval e X.env) :: starEach es X.env := by rfl) : EXs X W (e :: es) (f :: fs) := by
  refine ⟨PA.imp (pa_cons h.pe hs.pa he) fun σ H Q ⟨S, R0, q⟩ => ⟨S, R0, ?_⟩⟩
  unfold evX at q
  cases hf : f S with
  | stuck => rw [hf] at q; exact q
  | exc x S1 => rw [hf] at q; exact q
  | ok r S1 =>
    rw [hf, R.bind_ok] at q
    have step : ∀ v H1, Hd X.K S1 σ H1 r v → (∀ p, NewAt r v p → ∀ o, H p = some o → Owns S σ p) → RelS X.K S1 σ H1 → Frm S σ H S1 σ H1 → LiftXs X.K X.mg W fs σ H1 fun vs H2 => Q (v :: vs) H2 := by
      intro v H1 hd hn R1 F1
      refine ⟨S1, R1, ?_⟩
      cases h2 : evX fs S1 with
      | stuck => rw [h2] at q; exact q
      | exc x S2 => rw [h2] at q; exact fun c d H2 er R2 F2 => q c d H2 er R2 (F1.trans F2)
      | ok rs S2 =>
        rw [h2, R.bind_ok] at q
        intro vs H2 hl fr R2 F2
        refine q (v :: vs) H2 (.cons (hd.frm R1 F2) (fun p np i q' w hq hw nq => ?_) hl) (fun i q' w p hq hw nq o ho => ?_) R2 (F1.trans F2)
        · obtain ⟨n1, rfl⟩ := np
          cases r with
          | v x => cases n1
          | l x =>
            obtain ⟨p', u, e, h1, h3, h4⟩ := hd
            cases e
            exact h4 (fr i q' w p hq hw nq u h1)
        · cases i with
          | zero => cases hq; cases hw; exact hn p nq o ho
          | succ i =>
            by_cases hw' : Owns S σ p
            · exact hw'
            · have z := F1.keep p o ho hw'
              exact absurd (fr i q' w p (by simpa using hq) (by simpa using hw) nq o z.1) z.2
    cases r with
    | v x => exact fun v H1 rv R1 F1 => step v H1 rv (fun p np => by cases np.1) R1 F1
    | l x => exact fun p u H1 h1 h2 h3 h4 R1 F1 => step (.ref p) H1 ⟨p, u, rfl, h1, h2, h3⟩ (fun p' np o ho => by cases np.2; exact h4 o ho) R1 F1
/-! ### they are stored -/
def setRs : List Nat → List RV → Sk → Sk
  | i :: is, r :: rs, S => setRs is rs (S.set i r.sl)
  | _, _, S => S
def setVs : List Nat → List V → St → St
  | i :: is, v :: vs, σ => setVs is vs (σ.set i (some v))
  | _, _, σ => σ
def asgXF (is : List Nat) (fs : List (Sk → R RV)) : Sk → O := fun S => (evX fs S).toO fun rs S1 => if (is.all fun i => unpinned S1 i) = true ∧ rs.length = is.length then .nx (setRs is rs S1) else .stuck
theorem HdL.len {rs : List RV} {vs : List V} (h : HdL K S σ H rs vs) : rs.length = vs.length := by
  induction h with
  | nil => rfl
  | cons _ _ _ ih => rw [List.length_cons, List.length_cons, ih]
theorem setRs_ok : ∀ (is : List Nat) {rs : List RV} {vs : List V} {S0 : Sk} {σ0 : St} {H0 : Hp} {S : Sk} {σ : St}, HdL K S σ H rs vs → RelS K S σ H → Frm S0 σ0 H0 S σ H → (∀ (i : Nat) q w p, rs[i]? = some q → vs[i]? = some w → NewAt q w p → ∀ o, H0 p = some o → Owns S0 σ0 p) →
    RelS K (setRs is rs S) (setVs is vs σ) H ∧ Frm S0 σ0 H0 (setRs is rs S) (setVs is vs σ) H
  | [], _, _, _, _, _, _, _, _, R, F, _ => ⟨R, F⟩
  | i :: is, _, _, S0, σ0, H0, S, σ, .nil, R, F, _ => ⟨R, F⟩
  | i :: is, r :: rs, v :: vs, S0, σ0, H0, S, σ, .cons hd hn hl, R, F, fr => by
    have oth : ∀ {rs' : List RV} {vs' : List V}, HdL K S σ H rs' vs' → (∀ p, NewAt r v p → ∀ (i : Nat) q w, rs'[i]? = some q → vs'[i]? = some w → ¬ NewAt q w p) → HdL K (S.set i r.sl) (σ.set i (some v)) H rs' vs' := by
      intro rs' vs' h
      induction h with
      | nil => exact fun _ => .nil
      | @cons q w rs2 vs2 a b c ih =>
        intro hh
        refine .cons ?_ b (ih fun p np k q' w' hq hw => hh p np (k + 1) q' w' (by simpa using hq) (by simpa using hw))
        cases q with
        | v x => exact a
        | l x =>
          obtain ⟨p, u, rfl, h1, h2, h3⟩ := a
          refine ⟨p, u, rfl, h1, h2, fun ⟨k, s, g1, g2, g3⟩ => ?_⟩
          rcases get_set g1 with ⟨rfl, rfl⟩ | ⟨ne, g1⟩
          · rcases get_set g3 with ⟨_, e⟩ | ⟨e, _⟩
            · cases r with
              | v x => cases g2
              | l x => cases e; exact hh p ⟨rfl, rfl⟩ 0 _ _ rfl rfl ⟨rfl, rfl⟩
            · exact e rfl
          · rw [List.getElem?_set_ne ne] at g3
            exact h3 ⟨k, s, g1, g2, g3⟩
    have hl' := oth hl hn
    have RF : RelS K (S.set i r.sl) (σ.set i (some v)) H ∧ Frm S0 σ0 H0 (S.set i r.sl) (σ.set i (some v)) H := by
      cases r with
      | v x => exact ⟨R.setVal hd, F.trans .setVal⟩
      | l x =>
        obtain ⟨p, u, rfl, h1, h2, h3⟩ := hd
        exact ⟨R.setOwn h1 h2 h3, F.setOwn fun o ho => fr 0 _ _ p rfl rfl ⟨rfl, rfl⟩ o ho⟩
    exact setRs_ok is hl' RF.1 RF.2 fun k q w p hq hw => fr (k + 1) q w p (by simpa using hq) (by simpa using hw)
theorem asgX_lift {is : List Nat} {fs : List (Sk → R RV)} {D : Ends} (h : LiftS K mg W (asgXF is fs) D σ H) : LiftXs K mg W fs σ H fun vs H1 => vs.length = is.length ∧ ∀ H2, Same H1 H2 → D.nx (setVs is vs σ) H2 := by
  obtain ⟨S, R0, q⟩ := h
  refine ⟨S, R0, ?_⟩
  unfold asgXF at q
  cases hf : evX fs S with
  | stuck => rw [hf] at q; exact q
  | exc y S1 => rw [hf] at q; exact fun c d H1 er R1 F1 => q c d σ H1 er R1 F1
  | ok rs S1 =>
    rw [hf, R.toO_ok] at q
    intro vs H1 hl fr R1 F1
    by_cases hu : (is.all fun i => unpinned S1 i) = true ∧ rs.length = is.length
    · rw [if_pos hu] at q
      refine ⟨by rw [← hl.len]; exact hu.2, fun H2 sm => ?_⟩
      have F2 : Frm S1 σ H1 S1 σ H2 := .same sm
      obtain ⟨a, b⟩ := setRs_ok is (hl.frm R1 F2) (R1.same sm) (F1.trans F2) fr
      exact q _ H2 a b
    · rw [if_neg hu] at q; exact (show False from q).elim
def gNms : List Nat → TGs
  | [] => gNil
  | i :: is => gCons (gName i) (gNms is)
theorem gNms_ok : ∀ (is : List Nat) {vs : List V} {σ : St} {H : Hp} {Q : St → Hp → Prop}, vs.length = is.length → Q (setVs is vs σ) H → gNms is vs σ H Q
  | [], [], σ, H, Q, _, q => ⟨rfl, q⟩
  | [], _ :: _, _, _, _, h, _ => by cases h
  | _ :: _, [], _, _, _, h, _ => by cases h
  | i :: is, v :: vs, σ, H, Q, h, q => ⟨v, vs, rfl, gNms_ok is (Nat.succ.inj h) q⟩
structure ENs (X : Cx) (ts : List Expr) (is : List Nat) : Prop where
  pg : PGs X ts (gNms is)
theorem ens_nil : ENs X [] [] := ⟨pgs_nil⟩
theorem ens_cons {x : Str} {p : Pos} {ts : List Expr} {is : List Nat} (i : Nat) (hN : X.N.Nodup) (h : ENs X ts is) (hi : X.N[i]? = some x := by rfl) (hx : Loc X.env.scope x := by first | exact .inl rfl | exact .inr rfl) (hf : X.fn x = true ∨ X.env.scope.names.lookup x = some .local := by first | exact .inl rfl | exact .inr rfl)
    (hs : (assignEach (.Name x p :: ts) X.env).map (·.2) = assign (.Name x p) X.env :: (assignEach ts X.env).map (·.2) := by rfl) : ENs X (.Name x p :: ts) (i :: is) := ⟨pgs_cons (pg_name hN hi hx hf) h.pg hs⟩
variable {ts es : List Expr} {is : List Nat} {fs : List (Sk → R RV)} {kt k2 : Nat} {tp ep pos : Pos}
theorem asgX (hc : X.calm = true) (ha : EXs X W es fs) (hg : ENs X ts is) (hl : is.length ≤ 16777216 := by decide) (hn : (assignEach ts X.env).length = is.length := by rfl) (hst : (assignEach ts X.env).findIdx? (·.1) = none := by rfl)
    (hs : swapsWithSole [.Tuple ts kt tp] (.Tuple es k2 ep) pos.line X.env = pure false := by rfl) (hw : swappedStores [.Tuple ts kt tp] (.Tuple es k2 ep) X.env = pure none := by rfl)
    (h1 : (assignEach [.Tuple ts kt tp] X.env).map (·.2) = [assign (.Tuple ts kt tp) X.env] := by rfl) : VS X W (.Assign [.Tuple ts kt tp] (.Tuple es k2 ep) pos) (asgXF is fs) :=
  ⟨PS.imp (ps_asg (pe_tup ha.pa) (pg_tup hc hg.pg hn hst) hs hw h1) fun D σ H h => by
    obtain ⟨S, R0, q⟩ := asgX_lift h
    refine ⟨S, R0, ?_⟩
    cases hf : evX fs S with
    | stuck => rw [hf] at q; exact q
    | exc y S1 => rw [hf] at q; exact q
    | ok rs S1 =>
      rw [hf] at q
      intro vs H1 a b c d
      obtain ⟨h2, h3⟩ := q vs H1 a b c d
      refine ⟨by rw [h2]; exact hl, fun p hp => ⟨p, vs, rfl, SqT.of upd_same, h2, gNms_ok is h2 (h3 _ (same_upd hp))⟩⟩⟩
theorem asgX2 {i j : Nat} {x y : Str} {a b : Expr} {px py : Pos} (hc : X.calm = true) (hN : X.N.Nodup) (hij : i ≠ j) (ha : EXs X W [a, b] fs) (hi : X.N[i]? = some x := by rfl) (hj : X.N[j]? = some y := by rfl)
    (hx : X.env.scope.names.lookup x = some .local := by rfl) (hy : X.env.scope.names.lookup y = some .local := by rfl)
    (hw : swappedStores [.Tuple [.Name x px, .Name y py] kt tp] (.Tuple [a, b] k2 ep) X.env = pure (some [x, y]) := by rfl)
    (hs : swapsWithSole [.Tuple [.Name x px, .Name y py] kt tp] (.Tuple [a, b] k2 ep) pos.line X.env = pure false := by rfl) :
    VS X W (.Assign [.Tuple [.Name x px, .Name y py] kt tp] (.Tuple [a, b] k2 ep) pos) (asgXF [i, j] fs) :=
  ⟨PS.imp (ps_par hc hN hi hj hij hx hy ha.pa hw hs) fun D σ H h => by
    obtain ⟨S, R0, q⟩ := asgX_lift h
    refine ⟨S, R0, ?_⟩
    cases hf : evX fs S with
    | stuck => rw [hf] at q; exact q
    | exc y S1 => rw [hf] at q; exact q
    | ok rs S1 =>
      rw [hf] at q
      intro vs H1 a b c d
      obtain ⟨h2, h3⟩ := q vs H1 a b c d
      match vs, h2 with
      | [u, v], _ => exact ⟨u, v, rfl, h3 H1 (Same.refl H1)⟩⟩
theorem asgX3 {i j l : Nat} {x y z : Str} {a b c : Expr} {px py pz : Pos} (hc : X.calm = true) (hN : X.N.Nodup) (hij : i ≠ j) (hil : i ≠ l) (hjl : j ≠ l) (ha : EXs X W [a, b, c] fs) (hi : X.N[i]? = some x := by rfl) (hj : X.N[j]? = some y := by rfl) (hl : X.N[l]? = some z := by rfl)
    (hx : X.env.scope.names.lookup x = some .local := by rfl) (hy : X.env.scope.names.lookup y = some .local := by rfl) (hz : X.env.scope.names.lookup z = some .local := by rfl)
    (hw : swappedStores [.Tuple [.Name x px, .Name y py, .Name z pz] kt tp] (.Tuple [a, b, c] k2 ep) X.env = pure (some [x, y, z]) := by rfl)
    (hs : swapsWithSole [.Tuple [.Name x px, .Name y py, .Name z pz] kt tp] (.Tuple [a, b, c] k2 ep) pos.line X.env = pure false := by rfl) :
    VS X W (.Assign [.Tuple [.Name x px, .Name y py, .Name z pz] kt tp] (.Tuple [a, b, c] k2 ep) pos) (asgXF [i, j, l] fs) :=
  ⟨PS.imp (ps_par3 hc hN hi hj hl hij hil hjl hx hy hz ha.pa hw hs) fun D σ H h => by
    obtain ⟨S, R0, q⟩ := asgX_lift h
    refine ⟨S, R0, ?_⟩
    cases hf : evX fs S with
    | stuck => rw [hf] at q; exact q
    | exc y S1 => rw [hf] at q; exact q
    | ok rs S1 =>
      rw [hf] at q
      intro vs H1 a b c d
      obtain ⟨h2, h3⟩ := q vs H1 a b c d
      match vs, h2 with
      | [u, v, w], _ => exact ⟨u, v, w, rfl, h3 H1 (Same.refl H1)⟩⟩
end
end VL

set_option Elab.async false
set_option linter.all false
set_option autoImplicit false
set_option maxRecDepth 100000
set_option maxHeartbeats 4000000
/-! VB: sorted(x), x a tuple of ints -/
namespace VL
open PySem L2 PySem.Spec PyProof.Rows Srt
section
variable {prog : Program} {w : World} {A : Around} {E : Value → Shared → Prop} {s : Shared}
theorem collect_tup {l : Addr} {o : Obj} {vs : List Value} {n : Nat} {Q : List Value → Shared → Prop} (ho : s.heap.get? l = some o) (hc : o.cls = .type "tuple") (hd : o.data = .seq vs.toArray n)
    (h : Q vs { s with heap := (s.heap.push (seqObj "list" #[] 0)).update s.heap.objs.size (Obj.mapSeq (· ++ vs.toArray)) }) (hsz : vs.length ≤ sizeLine) :
    wpAny (model prog w) A (collect (.ref l)) Q E s := by
  unfold collect
  refine wpAny_bind (wpAny_runValue (codeAny_builtin F.entry_proto_collect ?_))
  rw [Around.under_plainId F.plain_proto_collect _]
  show wpAny _ A.in1 (newList [] >>= fun l' => again (.builtin "list.__iadd__" ⟨[l', .ref l], []⟩)) _ _ s
  refine wpAny_bind (wpAny_newObj_type ?_)
  refine wpAny_pure ⟨plainId_quiet F.plain_list_iadd _, codeAny_builtin F.entry_list_iadd ?_⟩
  rw [Around.under_plainId F.plain_list_iadd _]
  show wpAny _ A.in1 (Builtin.List.listExtendWith (.ref s.heap.objs.size) (.ref l) (.ref s.heap.objs.size)) _ _ _
  have hS : (s.heap.push { cls := .type "list", data := .seq ([] : List Value).toArray }).get? s.heap.objs.size = some { cls := .type "list", data := .seq #[] 0 } := Heap.get?_push_size _ rfl
  have hS₂ := Heap.get?_update_self (Obj.mapSeq (· ++ vs.toArray)) hS rfl
  have fin' : wpAny (model prog w) A (match Value.ref s.heap.objs.size with
      | Value.ref a => do
        match (← load a).data with
          | Data.seq xs _ => pure xs.toList
          | _ => unsupported "internal:collect"
      | _ => unsupported "internal:collect") Q E { s with heap := (s.heap.push { cls := .type "list", data := .seq ([] : List Value).toArray }).update s.heap.objs.size (Obj.mapSeq (· ++ vs.toArray)) } := by
    show wpAny _ A (load s.heap.objs.size >>= _) _ _ _
    refine wpAny_bind (wpAny_load hS₂ ?_)
    refine wpAny_pure ?_
    have e : ((#[] : Array Value) ++ vs.toArray).toList = vs := by simp
    show Q ((#[] : Array Value) ++ vs.toArray).toList _
    rw [e]
    exact h
  refine wpAny_mono (wpAny_extend_seq (hsz := by simpa using hsz) (A := A) (R := fun r s' => r = .ok (.ret (.ref s.heap.objs.size)) ∧ s' = { s with heap := (s.heap.push { cls := .type "list", data := .seq ([] : List Value).toArray }).update s.heap.objs.size (Obj.mapSeq (· ++ vs.toArray)) })
    (s := { s with heap := s.heap.push { cls := .type "list", data := .seq ([] : List Value).toArray } }) _ l _ 0 (.inr rfl) hS (Heap.get?_push_of_some _ ho) hc hd ⟨rfl, rfl⟩) (fun fin s' h' => ?_) (fun e s' h' => ?_)
  · cases fin with
    | done f =>
      obtain ⟨e, rfl⟩ := h'
      cases e
      exact fin'
    | again c' => exact ⟨h'.1, codeAny_mono h'.2 fun r s'' hr => by obtain ⟨rfl, rfl⟩ := hr; exact fin'⟩
  · exact absurd h'.1 (by simp)
/-- sorted(t), t a tuple: the new list stands at size + 1 -/
theorem sorted_tup {l : Addr} {o : Obj} {n : Nat} {vs : List Value} {ltv : Value → Value → Bool} {Q : Value → Shared → Prop} (O : SrtO.Swo ltv) (ho : s.heap.get? l = some o) (hc : o.cls = .type "tuple") (hd : o.data = .seq vs.toArray n) (hz : vs.length ≤ sizeLine)
    (hS : 2 ≤ vs.length → ∀ (h₁ : Heap) (a : Addr), h₁.get? a = some (seqObj "list" vs.toArray 0) → SrtO.SortableO prog w A.in1.in1 { s with heap := h₁ } a vs ltv)
    (h : ∀ out : List Value, SrtO.Srtd ltv out → SrtO.Stb ltv out vs → Q (.ref (s.heap.objs.size + 1)) { s with heap := sortedAll s.heap vs out.toArray }) :
    wpAny (model prog w) A (call (.builtin "sorted") [.ref l]) Q E s := by
  refine Calls.call_function_entry PyProof.Rows.kind_sorted PyProof.Rows.plain_sorted PyProof.Rows.entry_sorted (PyProof.Rows.args_sorted1 _) ?_
  unfold Builtin.«sorted»
  refine wpAny_bind (m := checkCount "sorted" 1 1 _) (wpAny_pure ?_)
  refine wpAny_bind (collect_tup ho hc hd ?_ hz)
  refine wpAny_bind (wpAny_newList ?_ hz)
  have hsz : ((s.heap.push (seqObj "list" #[] 0)).update s.heap.objs.size (Obj.mapSeq (· ++ vs.toArray))).objs.size = s.heap.objs.size + 1 := by
    rw [Heap.size_update, size_push']
  have hoL : (((s.heap.push (seqObj "list" #[] 0)).update s.heap.objs.size (Obj.mapSeq (· ++ vs.toArray))).push (seqObj "list" vs.toArray 0)).get? (s.heap.objs.size + 1) = some (seqObj "list" vs.toArray 0) := by
    rw [← hsz]; exact Heap.get?_push_size _ rfl
  show wpAny _ _ _ _ _ { s with heap := ((s.heap.push (seqObj "list" #[] 0)).update s.heap.objs.size (Obj.mapSeq (· ++ vs.toArray))).push (seqObj "list" vs.toArray 0) }
  rw [hsz]
  refine wpAny_bind (wpAny_holding (wpAny_call_entry PyProof.Rows.slot_list_sort ⟨_, hoL, rfl⟩ PyProof.Rows.entry_list_sort (SrtO.list_sort_ord O hoL hz (fun h2 => hS h2 _ _ hoL) fun out hs hb => ⟨_, rfl, ?_⟩) (PyProof.Rows.args_list_sort _)))
  exact wpAny_pure ⟨_, rfl, h out hs hb⟩
end
def rSortedTI (K : PySem.W.Frag) : List V → Hp → VK → Prop := fun vs H Q => ∃ (a : Addr) (ns : List Int), vs = [V.ref a] ∧ SqT K H a (ns.map V.int) ∧
  ∀ (ns' : List Int) (p : Addr), ns'.Perm ns → ns'.Pairwise (· ≤ ·) → H p = none → Q (.ref p) (upd H p (.lst (ns'.map V.int)))
section
variable {X : Cx}
theorem cr_sortedTI : CallR X (.builtin "sorted") (rSortedTI X.K) := by
  intro pins s σ H vs us Q I r h
  obtain ⟨a, ns, rfl, hs, q⟩ := h
  obtain ⟨its, rv, ⟨o, ho, hc, n, hd⟩, hz⟩ := I.tuple hs
  rw [Vals.ref1 r]
  have hi := rv.ints
  refine sorted_tup SrtO.swo_int ho hc hd (by rw [← rv.length]; exact hz) (fun h2 h₁ a' _ => SrtO.ints_sortable hi h2) fun out h1 h2 => ?_
  obtain ⟨k1, k2, k3⟩ := SrtO.ints_out hi h1 h2
  obtain ⟨ep, he'⟩ := PyProof.Rows.sortedAll_at s.heap its out.toArray
  have hlen : ((out.map SrtO.iv).map V.int).length ≤ sizeLine := by
    rw [List.length_map, k2.length_eq]
    rw [List.length_map] at hz
    exact hz
  exact ⟨.ref _, upd H (s.heap.objs.size + 1) (.lst ((out.map SrtO.iv).map V.int)), I.laid (t' := s.toks) (fun _ _ => PyProof.Rows.sortedAll_old) (Nat.le_succ _) ⟨hlen, out, ep, vals_of_ints k1, he'⟩, rfl, q _ _ k2 k3 (I.hok.fresh (Nat.le_succ _))⟩
/-- sorted of a list, of a tuple of ints -/
def sSortedA : List PV → Option PV
  | [.tup xs] => if (intsOf xs).isSome = true then some (.lst (srtP xs)) else none
  | xs => sSorted xs
theorem s_sortedA : SemA X OutL (fun vs H Q => (rSortedI X.K vs H Q ∨ rSortedV X.K vs H Q) ∨ rSortedTI X.K vs H Q) sSortedA := by
  intro H vs ps z Q h e o
  unfold sSortedA at e
  split at e
  · rename_i xs
    obtain ⟨v, rfl, h1⟩ := rts1 h
    obtain ⟨a, ws, rfl, h2, r⟩ := h1.tup
    split at e
    · rename_i hc
      cases e
      cases hi : intsOf xs with
      | some ns =>
        have e2 := intsOf_eq hi
        subst e2
        refine .inr ⟨a, ns, rfl, SqT.of (by rw [r.ints] at h2; exact h2), fun ns' p pm so hp => ?_⟩
        have sm := same_upd (u := .lst (ns'.map V.int)) hp
        have eq : ns'.map PV.int = srtP (ns.map PV.int) := by
          refine srtd_uniq (pure_ints ns') ?_ (srtP_srtd _) ((pm.map PV.int).trans (srtP_perm _).symm)
          refine List.pairwise_map.mpr (so.imp fun {a b} hab => ?_)
          show ltTr (.lf b) (.lf a) = false
          simp [ltTr]
          exact hab
        refine o p _ _ hp upd_same ?_ sm
        rw [← eq]
        exact RepA.of_ints ns'
      | none => rw [hi] at hc; cases hc
    · cases e
  · exact .inl (s_sorted H vs ps z Q h e o)
theorem call_sortedA (hu : X.A.units + 80 < cLine) : CallR X (.builtin "sorted") (fun vs H Q => (rSortedI X.K vs H Q ∨ rSortedV X.K vs H Q) ∨ rSortedTI X.K vs H Q) := by
  intro pins s σ H vs us Q I r h
  rcases h with h | h
  · exact call_sorted hu pins s σ H vs us Q I r h
  · exact cr_sortedTI pins s σ H vs us Q I r h
end
end VL

set_option Elab.async false
set_option linter.all false
set_option autoImplicit false
set_option maxRecDepth 100000
set_option maxHeartbeats 4000000
/-! VC: a[i] += n, a a list of ours, n a number that is written out -/
namespace VL
open PySem L2 PySem.Spec PyProof.Rows
def rGetL : V → V → Hp → VK → Prop := fun o i H Q => ∃ p xs k x, o = .ref p ∧ i = .int k ∧ 0 ≤ k ∧ k < xs.length ∧ H p = some (.lst xs) ∧ xs[k.toNat]? = some x ∧ Q x H
section
variable {X : Cx} {W : WX} {pos : Pos}
theorem get_list : PGet X rGetL := by
  intro pins s σ H o i ov iv Q I ro ri h
  obtain ⟨p, xs, k, x, rfl, rfl, h0, h1, hp, hx, q⟩ := h
  cases ro
  obtain ⟨t, rfl⟩ := ri
  obtain ⟨its, r, pl, hz⟩ := I.list (.inl (.inl hp))
  obtain ⟨w, ew, rw'⟩ := r.get hx
  have hn := line63
  exact getItem_listL pl.isList h0 (by omega) ew ⟨x, H, I, rw', q⟩
def augL (xs : List PV) (k n : Int) : Option (List PV) := if 0 ≤ k ∧ k < xs.length then (match xs[k.toNat]? with
  | some (.int a) => some (xs.set k.toNat (.int (a + n)))
  | _ => none) else none
def augStF (j : Nat) (fi : Sk → R PV) (n : Int) : Sk → O := fun S => match getO S j with
  | some _ => (fi S).toO fun i S1 => (match getO S1 j, i with
    | some (.lst xs), .int k => (match augL xs k n with
      | some ys => .nx (putO S1 j (.lst ys))
      | none => .stuck)
    | _, _ => .stuck)
  | none => .stuck
theorem vs_augSt {j : Nat} {fi : Sk → R PV} {n : Int} {st : Stmt} (h : PS X st (tAugS (tVar j) (LiftE X.K X.mg W fi) (tC (.int n)) rGetL (ipI fun i j => i + j) rSetL)) : VS X W st (augStF j fi n) := by
  refine ⟨PS.imp h fun D σ H ⟨S, R0, q⟩ => ?_⟩
  unfold augStF at q
  cases hj : getO S j with
  | none => rw [hj] at q; exact (show False from q).elim
  | some c0 =>
    rw [hj] at q
    obtain ⟨a0, u0, g1, g2, g3, g4⟩ := getO_rel R0 hj
    dsimp only at q
    refine ⟨_, g1, S, R0, ?_⟩
    cases hf : fi S with
    | stuck => rw [hf] at q; exact q
    | exc y S1 => rw [hf] at q; exact fun c d H1 er R1 F1 => q c d σ H1 er R1 F1
    | ok i S1 =>
      rw [hf, R.toO_ok] at q
      intro iv H1 ri R1 F1
      split at q
      · rename_i xs k hc
        split at q
        · rename_i ys hm
          obtain ⟨a, u, k1, k2, k3, k4⟩ := getO_rel R1 hc
          rw [g1] at k1
          cases k1
          obtain ⟨ws, rfl, r⟩ := ob_lst k3
          cases ri
          unfold augL at hm
          split at hm
          · rename_i hk
            split at hm
            · rename_i b hb
              cases hm
              have hl := r.length
              obtain ⟨w, hw⟩ : ∃ w, ws[k.toNat]? = some w := ⟨_, List.getElem?_eq_getElem (show k.toNat < ws.length by omega)⟩
              obtain ⟨x', x1, x2⟩ := r.get hw
              rw [hb] at x1
              cases x1
              have ew : w = V.int b := by cases x2; rfl
              subst ew
              have ix : ixN ws.length k = some k.toNat := by
                unfold ixN
                rw [if_pos hk.1, if_pos (by rw [hl]; exact hk.2)]
              refine ⟨a0, ws, k, _, rfl, rfl, hk.1, by rw [hl]; exact hk.2, k2, hw, b, n, rfl, rfl, a0, ws, k, k.toNat, rfl, rfl, k2, ix, ?_⟩
              have ex := write_ext (u' := .lst (ws.set k.toNat (V.int (b + n)))) k2 k3
              obtain ⟨R3, F3⟩ := R1.write (u' := .lst (ws.set k.toNat (V.int (b + n)))) (x' := .lst (xs.set k.toNat (.int (b + n)))) hc g1 k2 k3 ((RepA.set (.int (b + n)) k.toNat r).ext ex)
              exact q σ _ R3 (F1.trans F3)
            · cases hm
          · cases hm
        · exact (show False from q).elim
      · exact (show False from q).elim
theorem augS {j : Nat} {x : Str} {p : Pos} {i : Expr} {fi : Sk → R PV} {n : Int} {p2 p3 : Pos} {k1 : Nat} (hi : EV X W i fi) (hN : X.N[j]? = some x := by rfl) (hv : Vis X.env.scope x := by first | exact Or.inl rfl | exact Or.inr (Or.inl rfl) | exact Or.inr (Or.inr rfl)) (hd : (x == ("__debug__" : Str)) = false := by decide) (hcd : (x == ("__classdict__" : Str)) = false := by decide)
    (ha : ∀ ov iv new, augStore i ov iv new = (do holding [new, ov, iv] (setItem ov iv new); release [new, ov, iv] []; pure .next) := by intros; rfl) :
    VS X W (.AugAssign (.Subscript (.Name x p) i p2) .Add (.Constant (.int n) k1 p3) pos) (augStF j fi n) := vs_augSt (ps_augS (pe_var hN hv hd hcd) hi.pe get_list pe_int ip_add set_list ha)
end
end VL

set_option Elab.async false
set_option linter.all false
set_option autoImplicit false
set_option maxRecDepth 100000
set_option maxHeartbeats 4000000
/-! Q0: plain readings without slots, in a monad; how a reading on slots follows a plain one. -/
namespace VL
open PySem L2

/-! ### a slot that nobody writes any more -/
def frzS (j : Nat) (S : Sk) : Sk := match S[j]? with
  | some (.own x) => S.set j (.val x)
  | _ => S
def frzF (j : Nat) (F : Sk → O) : Sk → O := fun S => F (frzS j S)
section
variable {X : Cx} {W : WX}
theorem frz_rel {pins : List (Addr × Obj)} {σ : St} {H : Hp} {s : Shared} {S : Sk} (j : Nat) (I : Inv X pins σ H s) (R0 : RelS X.K S σ H) : ∃ H', Inv X pins σ H' s ∧ RelS X.K (frzS j S) σ H' ∧ Frm S σ H (frzS j S) σ H' := by
  unfold frzS
  split
  · rename_i x hx
    obtain ⟨a, u, h1, h2, h3⟩ := R0.atOwn hx
    obtain ⟨o, I2⟩ := freeze_inv I h2 h3
    have ex := freeze_ext (o := o) R0 h2 h3
    have rr : Rep X.K (upd H a (.frz o u)) (.ref a) x := (h3.ext ex).frz upd_same
    have nn : ¬ Owns (S.set j .no) σ a := fun w => by
      obtain ⟨k, t, k1, k2, k3⟩ := w
      rcases get_set k1 with ⟨rfl, rfl⟩ | ⟨ne, k1⟩
      · cases k2
      · exact ne (R0.dj j k _ t a hx k1 rfl k2 h1 k3)
    have R2 : RelS X.K (S.set j .no) σ (upd H a (.frz o u)) := (R0.setNo j).freeze h2 h3 nn
    refine ⟨_, I2, ⟨by rw [List.length_set]; exact R0.len, fun k t ht => ?_, fun k l t t' b g1 g2 o1 o2 w1 w2 => ?_⟩, ⟨fun b ob hb nb => ⟨?_, fun w => ?_⟩, fun k t ht p => ?_⟩⟩
    · rcases get_set ht with ⟨rfl, rfl⟩ | ⟨ne, ht⟩
      · exact ⟨_, h1, rr⟩
      · exact R2.sl k t (by rw [List.getElem?_set_ne ne]; exact ht)
    · rcases get_set g1 with ⟨rfl, rfl⟩ | ⟨n1, q1⟩
      · cases o1
      · rcases get_set g2 with ⟨rfl, rfl⟩ | ⟨n2, q2⟩
        · cases o2
        · exact R0.dj k l t t' b q1 q2 o1 o2 w1 w2
    · rw [upd_ne (fun z => by subst z; exact nb ⟨j, _, hx, rfl, h1⟩)]
      exact hb
    · obtain ⟨k, t, k1, k2, k3⟩ := w
      rcases get_set k1 with ⟨rfl, rfl⟩ | ⟨ne, k1⟩
      · cases k2
      · exact nb ⟨k, t, k1, k2, k3⟩
    · rcases get_set ht with ⟨rfl, rfl⟩ | ⟨ne, ht⟩
      · cases p
      · exact ⟨⟨t, ht, p⟩, rfl⟩
  · exact ⟨H, I, R0, .refl⟩
theorem vss_frz {sts : List Stmt} {F : Sk → O} (j : Nat) (h : VSs X W sts F) : VSs X W sts (frzF j F) := by
  refine ⟨⟨fun pins s σ H D I ⟨S, R0, q⟩ => ?_⟩⟩
  obtain ⟨H', I', R', F'⟩ := frz_rel j I R0
  exact h.ps.run pins s σ H' D I' ⟨_, R', q.step F'⟩
end

/-! ### plain runs -/
inductive Rs (α : Type) where
  | ok (a : α) | exc (e : Exn)
def M (σ α : Type) : Type := σ → Option (Rs α × σ)
section
variable {σ α β γ : Type}
def mP (a : α) : M σ α := fun s => some (.ok a, s)
def mF : M σ α := fun _ => none
def mT (e : Exn) : M σ α := fun s => some (.exc e, s)
def mB (m : M σ α) (k : α → M σ β) : M σ β := fun s => match m s with
  | none => none
  | some (.ok a, s') => k a s'
  | some (.exc e, s') => some (.exc e, s')
theorem mB_ok {m : M σ α} {k : α → M σ β} {s s' : σ} {a : α} (h : m s = some (.ok a, s')) : mB m k s = k a s' := by unfold mB; rw [h]
theorem mB_inv {m : M σ α} {k : α → M σ β} {s s' : σ} {b : β} (h : mB m k s = some (.ok b, s')) : ∃ a s1, m s = some (.ok a, s1) ∧ k a s1 = some (.ok b, s') := by
  unfold mB at h
  cases hm : m s with
  | none => rw [hm] at h; cases h
  | some p =>
    obtain ⟨r, s1⟩ := p
    rw [hm] at h
    cases r with
    | ok a => exact ⟨a, s1, rfl, h⟩
    | exc e => cases h
@[simp] theorem mB_pure (a : α) (k : α → M σ β) : mB (mP a) k = k a := rfl
@[simp] theorem mB_fail (k : α → M σ β) : mB mF k = mF := rfl
@[simp] theorem mB_throw (e : Exn) (k : α → M σ β) : mB (mT e) k = mT e := rfl
@[simp] theorem mB_id (m : M σ α) : mB m mP = m := by
  funext s
  unfold mB mP
  cases m s with
  | none => rfl
  | some p => obtain ⟨r, s'⟩ := p; cases r <;> rfl
@[simp] theorem mB_assoc (m : M σ α) (k : α → M σ β) (l : β → M σ γ) : mB (mB m k) l = mB m fun a => mB (k a) l := by
  funext s
  unfold mB
  cases m s with
  | none => rfl
  | some p => obtain ⟨r, s'⟩ := p; cases r <;> rfl
theorem mB_ite (c : Prop) [Decidable c] (m n : M σ α) (k : α → M σ β) : mB (if c then m else n) k = if c then mB m k else mB n k := by split <;> rfl
@[simp] theorem ite_pure (c : Prop) [Decidable c] (a b : α) : (if c then (mP a : M σ α) else mP b) = mP (if c then a else b) := by split <;> rfl
/-- of an option -/
def mO (o : Option α) : M σ α := match o with
  | some a => mP a
  | none => mF
@[simp] theorem mO_some (a : α) : (mO (some a) : M σ α) = mP a := rfl
@[simp] theorem mO_none : (mO (none : Option α) : M σ α) = mF := rfl
/-- what has no state, in one that has -/
def mL (m : M Unit α) : M σ α := fun s => match m () with
  | none => none
  | some (r, _) => some (r, s)
@[simp] theorem mL_pure (a : α) : (mL (mP a) : M σ α) = mP a := rfl
@[simp] theorem mL_fail : (mL (mF : M Unit α) : M σ α) = mF := rfl
@[simp] theorem mL_throw (e : Exn) : (mL (mT e : M Unit α) : M σ α) = mT e := rfl
def mSt (s : σ) : M σ Unit := fun _ => some (.ok (), s)
end

/-! ### what is known of the slots -/
inductive Kn where
  | v (x : PV) | o (x : PV) | i (x : PV) | n | h
def Kn.At : Kn → Sl → Prop
  | .v x, s => s = .val x
  | .o x, s => s = .own x
  | .i x, s => s = .io x
  | .n, s => pinned s = false
  | .h, s => s = .hid
def AtL : List Kn → Sk → Prop
  | [], [] => True
  | k :: ks, s :: S => k.At s ∧ AtL ks S
  | _, _ => False
theorem AtL.len : ∀ {ks : List Kn} {S : Sk}, AtL ks S → S.length = ks.length
  | [], [], _ => rfl
  | _ :: _, _ :: _, h => congrArg Nat.succ (AtL.len h.2)
  | [], _ :: _, h => h.elim
  | _ :: _, [], h => h.elim
theorem AtL.get : ∀ {ks : List Kn} {S : Sk} {i : Nat} {k : Kn}, AtL ks S → ks[i]? = some k → ∃ s, S[i]? = some s ∧ k.At s
  | k :: ks, s :: S, 0, k', h, e => by simp at e; subst e; exact ⟨s, rfl, h.1⟩
  | k :: ks, s :: S, i + 1, k', h, e => by
    obtain ⟨t, h1, h2⟩ := AtL.get (i := i) h.2 (by simpa using e)
    exact ⟨t, by simpa using h1, h2⟩
  | [], S, i, k, h, e => by simp at e
  | _ :: _, [], i, k, h, e => h.elim
theorem AtL.set : ∀ {ks : List Kn} {S : Sk} (i : Nat) {k : Kn} {s : Sl}, AtL ks S → k.At s → AtL (ks.set i k) (S.set i s)
  | k :: ks, s :: S, 0, _, _, h, e => ⟨e, h.2⟩
  | k :: ks, s :: S, i + 1, _, _, h, e => ⟨h.1, AtL.set i h.2 e⟩
  | [], [], _, _, _, _, _ => trivial
  | _ :: _, [], _, _, _, h, _ => h.elim
  | [], _ :: _, _, _, _, h, _ => h.elim
theorem AtL.mem : ∀ {ks : List Kn} {S : Sk} {i : Nat} {k : Kn} {s : Sl}, AtL ks S → ks[i]? = some k → S[i]? = some s → k.At s := fun h e f => by
  obtain ⟨t, h1, h2⟩ := h.get e
  rw [f] at h1; cases h1
  exact h2
theorem AtL.ext : ∀ {ks : List Kn} {S : Sk}, S.length = ks.length → (∀ (i : Nat) k s, ks[i]? = some k → S[i]? = some s → k.At s) → AtL ks S
  | [], [], _, _ => trivial
  | k :: ks, s :: S, l, h => ⟨h 0 k s rfl rfl, AtL.ext (Nat.succ.inj l) fun i k s h1 h2 => h (i + 1) k s (by simpa using h1) (by simpa using h2)⟩
  | [], _ :: _, l, _ => by cases l
  | _ :: _, [], l, _ => by cases l
def Kn.up : Kn → Bool
  | .i _ => false
  | .h => false
  | _ => true
theorem Kn.At.up {k : Kn} {s : Sl} (h : k.At s) (e : k.up = true) : pinned s = false := by
  cases k with
  | v x => cases h; rfl
  | o x => cases h; rfl
  | i x => cases e
  | n => exact h
  | h => cases e
/-- less is known -/
inductive Wk : List Kn → List Kn → Prop
  | nil : Wk [] []
  | e {k : Kn} {ks ls : List Kn} : Wk ks ls → Wk (k :: ks) (k :: ls)
  | n {k : Kn} {ks ls : List Kn} : k.up = true → Wk ks ls → Wk (k :: ks) (.n :: ls)
theorem Wk.at : ∀ {ks ls : List Kn} {S : Sk}, Wk ks ls → AtL ks S → AtL ls S
  | _, _, [], .nil, h => trivial
  | _, _, s :: S, .e w, h => ⟨h.1, Wk.at w h.2⟩
  | _, _, s :: S, .n u w, h => ⟨h.1.up u, Wk.at w h.2⟩
  | _, _, _ :: _, .nil, h => h.elim
  | _, _, [], .e _, h => h.elim
  | _, _, [], .n _ _, h => h.elim

/-! ### an expression on slots follows a plain one -/
section
variable {σ A B C D : Type} {G : σ → List Kn}
structure Sm (G : σ → List Kn) (rl : A → B → Prop) (f : Sk → R B) (m : M σ A) : Prop where
  go : ∀ s S, AtL (G s) S → ∀ r s', m s = some (r, s') → match r with
    | .ok a => ∃ b S', f S = .ok b S' ∧ AtL (G s') S' ∧ rl a b
    | .exc e => ∃ S', f S = .exc e S' ∧ AtL (G s') S'
theorem Sm.bind {rl : A → B → Prop} {rl' : C → D → Prop} {f : Sk → R B} {m : M σ A} {g : B → Sk → R D} {k : A → M σ C} (h : Sm G rl f m) (hk : ∀ a b, rl a b → Sm G rl' (g b) (k a)) : Sm G rl' (fun S => (f S).bind g) (mB m k) := by
  refine ⟨fun s S hS r s' e => ?_⟩
  unfold mB at e
  cases hm : m s with
  | none => rw [hm] at e; cases e
  | some p =>
    obtain ⟨r1, s1⟩ := p
    rw [hm] at e
    have h1 := h.go s S hS r1 s1 hm
    cases r1 with
    | ok a =>
      obtain ⟨b, S1, e1, e2, e3⟩ := h1
      have h2 := (hk a b e3).go s1 S1 e2 r s' e
      try dsimp only
      rw [e1]
      exact h2
    | exc x =>
      obtain ⟨S1, e1, e2⟩ := h1
      cases e
      try dsimp only
      rw [e1]
      exact ⟨S1, rfl, e2⟩
theorem Sm.of {rl : A → B → Prop} {f : Sk → R B} {a : A} {b : B} (h : ∀ s S, AtL (G s) S → f S = .ok b S) (hr : rl a b) : Sm G rl f (mP a) :=
  ⟨fun s S hS r s' e => by cases e; exact ⟨b, S, h s S hS, hS, hr⟩⟩
theorem Sm.ofO {rl : A → B → Prop} {f : Sk → R B} {o : Option A} (h : ∀ a, o = some a → ∃ b, rl a b ∧ ∀ s S, AtL (G s) S → f S = .ok b S) : Sm G rl f (mO o) := by
  cases o with
  | none => exact ⟨fun s S hS r s' e => by cases e⟩
  | some a =>
    obtain ⟨b, h1, h2⟩ := h a rfl
    exact Sm.of h2 h1
theorem Sm.fail {rl : A → B → Prop} {f : Sk → R B} : Sm G rl f mF := ⟨fun s S hS r s' e => by cases e⟩
theorem Sm.conv {rl : A → B → Prop} {f f' : Sk → R B} {m : M σ A} (h : Sm G rl f m) (e : ∀ S, f' S = f S) : Sm G rl f' m := by
  have : f' = f := funext e
  rw [this]; exact h
abbrev SmV (G : σ → List Kn) (f : Sk → R PV) (m : M σ PV) : Prop := Sm G (fun a b => b = a) f m
abbrev SmT (G : σ → List Kn) (f : Sk → R Bool) (m : M σ Bool) : Prop := Sm G (fun a b => b = a) f m
abbrev SmP (G : σ → List Kn) (f : Sk → R (Option Int)) (m : M σ (Option Int)) : Prop := Sm G (fun a b => b = a) f m
def OR (G : σ → List Kn) (a : PV) (o : OV) : Prop := ∀ s S, AtL (G s) S → look S o = some a
abbrev SmO (G : σ → List Kn) (f : Sk → R OV) (m : M σ PV) : Prop := Sm G (OR G) f m
def ORs (G : σ → List Kn) (as : List PV) (os : List OV) : Prop := ∀ s S, AtL (G s) S → lookAll S os = some as
abbrev SmOs (G : σ → List Kn) (f : Sk → R (List OV)) (m : M σ (List PV)) : Prop := Sm G (ORs G) f m
abbrev SmA (G : σ → List Kn) (f : Sk → R (List OV)) (m : M σ (List PV)) : Prop := Sm G (fun as os => os = as.map OV.v) f m
def XR (fr : Bool) (a : PV) (r : RV) : Prop := r.val = a ∧ (fr = true → r = .l a)
/-- a value, or a new list -/
def YR (o : Bool) (a : PV) (r : RV) : Prop := r = if o = true then .l a else .v a
theorem YR.x {o : Bool} {a : PV} {r : RV} (h : YR o a r) : XR o a r := by
  have h : r = if o = true then .l a else .v a := h
  subst h
  cases o <;> exact ⟨rfl, fun z => by first | rfl | cases z⟩
abbrev SmX (G : σ → List Kn) (fr : Bool) (f : Sk → R RV) (m : M σ PV) : Prop := Sm G (XR fr) f m
abbrev SmI (G : σ → List Kn) (f : Sk → R (List PV × Option Nat)) (m : M σ (List PV)) : Prop := Sm G (fun a b => b = (a, none)) f m

variable {fa fb : Sk → R OV} {fv fv2 : Sk → R PV} {ft ft2 : Sk → R Bool} {fx : Sk → R RV} {fs : Sk → R (List OV)} {fp fp2 : Sk → R (Option Int)} {ma mb mv : M σ PV} {mt mt2 : M σ Bool} {ms : M σ (List PV)} {mp mp2 : M σ (Option Int)} {fr : Bool}
theorem sm_cst (x : PV) : SmV G (cst x) (mP x) := Sm.of (fun _ _ _ => rfl) rfl
theorem sm_var (j : Nat) {x : PV} (h : ∀ s, (G s)[j]? = some (.v x)) : SmV G (shareF j) (mP x) := by
  refine Sm.of (b := x) (fun s S hS => ?_) rfl
  obtain ⟨t, h1, h2⟩ := hS.get (h s)
  cases h2
  unfold shareF
  rw [h1]
theorem sm_opv (h : SmV G fv mv) : SmO G (opv fv) mv := by
  have := Sm.bind (rl' := OR G) (g := fun x S1 => R.ok (OV.v x) S1) (k := fun a => (mP a : M σ PV)) h fun a b e => Sm.of (fun _ _ _ => rfl) (fun s S _ => by rw [e]; rfl)
  rw [show mB mv (fun a => (mP a : M σ PV)) = mv from mB_id mv] at this
  exact this
/-- what is ours, not written in this expression -/
theorem sm_own (j : Nat) {x : PV} (h : ∀ s, (G s)[j]? = some (.o x)) : SmO G (opx j) (mP x) := by
  have g : ∀ s S, AtL (G s) S → S[j]? = some (.own x) := fun s S hS => by
    obtain ⟨t, h1, h2⟩ := hS.get (h s)
    cases h2
    exact h1
  refine Sm.of (b := .s j) (fun s S hS => ?_) fun s S hS => ?_
  · unfold opx; rw [g s S hS]
  · show slLook S[j]? = some x
    rw [g s S hS]; rfl
theorem sm_lent (j : Nat) {x : PV} (h : ∀ s, (G s)[j]? = some (.i x)) : SmO G (opx j) (mP x) := by
  have g : ∀ s S, AtL (G s) S → S[j]? = some (.io x) := fun s S hS => by
    obtain ⟨t, h1, h2⟩ := hS.get (h s)
    cases h2
    exact h1
  refine Sm.of (b := .s j) (fun s S hS => ?_) fun s S hS => ?_
  · unfold opx; rw [g s S hS]
  · show slLook S[j]? = some x
    rw [g s S hS]; rfl
def qOp1 (sem : PV → Option PV) (m : M σ PV) : M σ PV := mB m fun x => mO (sem x)
def qOp2 (sem : PV → PV → Option PV) (m n : M σ PV) : M σ PV := mB m fun x => mB n fun y => mO (sem x y)
theorem sm_op1 {sem : PV → Option PV} (h : SmO G fa ma) : SmV G (op1 sem fa) (qOp1 sem ma) := by
  refine Sm.conv (Sm.bind h fun a o ho => ?_) fun S => rfl
  refine Sm.ofO fun z hz => ⟨z, rfl, fun s S hS => ?_⟩
  try dsimp only
  rw [ho s S hS]
  try dsimp only
  rw [hz]
theorem sm_op2 {sem : PV → PV → Option PV} (h : SmO G fa ma) (h2 : SmO G fb mb) : SmV G (op2 sem fa fb) (qOp2 sem ma mb) := by
  refine Sm.conv (Sm.bind h fun a o ho => Sm.bind h2 fun b p hp => ?_) fun S => rfl
  refine Sm.ofO fun z hz => ⟨z, rfl, fun s S hS => ?_⟩
  try dsimp only
  rw [ho s S hS, hp s S hS]
  try dsimp only
  rw [hz]
def qX2 (sem : PV → PV → Option RV) (m n : M σ PV) : M σ PV := mB m fun x => mB n fun y => mO ((sem x y).map RV.val)
theorem sm_x2 {sem : PV → PV → Option RV} (h : SmO G fa ma) (h2 : SmO G fb mb) : SmX G false (op2X sem fa fb) (qX2 sem ma mb) := by
  refine Sm.conv (Sm.bind h fun a o ho => Sm.bind h2 fun b p hp => ?_) fun S => rfl
  refine Sm.ofO fun z hz => ?_
  obtain ⟨r, h3, h4⟩ := Option.map_eq_some_iff.mp hz
  refine ⟨r, ⟨h4, fun z => by cases z⟩, fun s S hS => ?_⟩
  try dsimp only
  rw [ho s S hS, hp s S hS]
  try dsimp only
  rw [h3]
def isL : PV → Option PV
  | .lst xs => some (.lst xs)
  | _ => none
/-- a sum of lists is a new list -/
def qAddL (m n : M σ PV) : M σ PV := mB m fun x => mB n fun y => mO (((sAddX x y).map RV.val).bind isL)
theorem sAddX_l {x y : PV} {r : RV} {l : List PV} (h : sAddX x y = some r) (e : r.val = .lst l) : r = .l (.lst l) := by
  unfold sAddX at h
  split at h
  · obtain ⟨w, h1, h2⟩ := Option.map_eq_some_iff.mp h
    subst h2
    have e' : w = .lst l := e
    rw [e']
  · rename_i hne
    obtain ⟨w, h1, h2⟩ := Option.map_eq_some_iff.mp h
    subst h2
    have e' : w = .lst l := e
    subst e'
    unfold sAdd at h1
    split at h1 <;> first | (cases h1; done) | (split at h1 <;> cases h1)
theorem sm_addL (h : SmO G fa ma) (h2 : SmO G fb mb) : SmX G true (op2X sAddX fa fb) (qAddL ma mb) := by
  refine Sm.conv (Sm.bind h fun a o ho => Sm.bind h2 fun b p hp => ?_) fun S => rfl
  refine Sm.ofO fun z hz => ?_
  obtain ⟨w, h3, h4⟩ := Option.bind_eq_some_iff.mp hz
  obtain ⟨r, h5, h6⟩ := Option.map_eq_some_iff.mp h3
  have hw : ∃ l, w = .lst l ∧ z = .lst l := by
    unfold isL at h4
    split at h4
    · cases h4; exact ⟨_, rfl, rfl⟩
    · cases h4
  obtain ⟨l, rfl, rfl⟩ := hw
  have e := sAddX_l h5 h6
  refine ⟨r, ⟨h6, fun _ => e⟩, fun s S hS => ?_⟩
  try dsimp only
  rw [ho s S hS, hp s S hS]
  try dsimp only
  rw [h5]
theorem sm_fz (h : SmX G fr fx mv) : SmV G (fz fx) mv := by
  have := Sm.bind (rl' := fun (a b : PV) => b = a) (g := fun r S1 => R.ok (RV.val r) S1) (k := fun a => (mP a : M σ PV)) h fun a b e => Sm.of (fun _ _ _ => rfl) e.1
  rw [show mB mv (fun a => (mP a : M σ PV)) = mv from mB_id mv] at this
  exact this
theorem sm_xV (h : SmV G fv mv) : SmX G false (xV fv) mv := by
  have := Sm.bind (rl' := XR false) (g := fun r S1 => R.ok (RV.v r) S1) (k := fun a => (mP a : M σ PV)) h fun a b e => Sm.of (fun _ _ _ => rfl) ⟨e, fun z => by cases z⟩
  rw [show mB mv (fun a => (mP a : M σ PV)) = mv from mB_id mv] at this
  exact this
theorem sm_xL (h : SmV G fv mv) : SmX G true (xL fv) mv := by
  have := Sm.bind (rl' := XR true) (g := fun r S1 => R.ok (RV.l r) S1) (k := fun a => (mP a : M σ PV)) h fun a b e => Sm.of (fun _ _ _ => rfl) ⟨e, fun _ => by rw [show b = a from e]⟩
  rw [show mB mv (fun a => (mP a : M σ PV)) = mv from mB_id mv] at this
  exact this
/-! tests -/
def isB : PV → M σ Bool
  | .bl b => mP b
  | _ => mF
@[simp] theorem isB_bl (b : Bool) : (isB (.bl b) : M σ Bool) = mP b := rfl
theorem sm_tst (h : SmV G fv mv) : SmT G (tst fv) (mB mv isB) := by
  refine Sm.conv (Sm.bind h fun a b e => ?_) fun S => rfl
  subst e
  cases b <;> first | exact Sm.of (fun _ _ _ => rfl) rfl | exact Sm.fail
def qIf {α : Type} (c : M σ Bool) (m n : M σ α) : M σ α := mB c fun b => if b = true then m else n
theorem sm_tand (h : SmT G ft mt) (h2 : SmT G ft2 mt2) : SmT G (tAndF ft ft2) (qIf mt mt2 (mP false)) := by
  refine Sm.conv (Sm.bind h fun a b e => ?_) fun S => rfl
  subst e
  cases b
  · exact Sm.of (fun _ _ _ => rfl) rfl
  · exact h2
theorem sm_tor (h : SmT G ft mt) (h2 : SmT G ft2 mt2) : SmT G (tOrF ft ft2) (qIf mt (mP true) mt2) := by
  refine Sm.conv (Sm.bind h fun a b e => ?_) fun S => rfl
  subst e
  cases b
  · exact h2
  · exact Sm.of (fun _ _ _ => rfl) rfl
theorem sm_tnot (h : SmT G ft mt) : SmT G (tNotF ft) (mB mt fun b => mP (!b)) := by
  refine Sm.conv (Sm.bind h fun a b e => ?_) fun S => rfl
  subst e
  exact Sm.of (fun _ _ _ => rfl) rfl
theorem sm_yes : SmT G yesF (mP true) := Sm.of (fun _ _ _ => rfl) rfl
theorem sm_vand (h : SmV G fv mv) (h2 : SmV G fv2 ma) : SmV G (vAndF fv fv2) (mB mv fun x => qIf (isB x) ma (mP (.bl false))) := by
  refine Sm.conv (Sm.bind h fun a b e => ?_) fun S => rfl
  subst e
  cases b <;> first | exact Sm.fail | skip
  rename_i b
  cases b
  · exact Sm.of (fun _ _ _ => rfl) rfl
  · exact h2
theorem sm_vor (h : SmV G fv mv) (h2 : SmV G fv2 ma) : SmV G (vOrF fv fv2) (mB mv fun x => qIf (isB x) (mP (.bl true)) ma) := by
  refine Sm.conv (Sm.bind h fun a b e => ?_) fun S => rfl
  subst e
  cases b <;> first | exact Sm.fail | skip
  rename_i b
  cases b
  · exact h2
  · exact Sm.of (fun _ _ _ => rfl) rfl
theorem sm_vnot (h : SmV G fv mv) : SmV G (vNotF fv) (mB mv fun x => mB (isB x) fun b => mP (.bl (!b))) := by
  refine Sm.conv (Sm.bind h fun a b e => ?_) fun S => rfl
  subst e
  cases b <;> first | exact Sm.fail | exact Sm.of (fun _ _ _ => rfl) rfl
theorem sm_ifv (h : SmT G ft mt) (h1 : SmV G fv mv) (h2 : SmV G fv2 ma) : SmV G (ifF ft fv fv2) (qIf mt mv ma) := by
  refine Sm.conv (Sm.bind h fun a b e => ?_) fun S => rfl
  subst e
  cases b
  · exact h2
  · exact h1
theorem sm_isi {T : Ty} (h : SmO G fa ma) : SmV G (isiF T fa) (mB ma fun x => mP (.bl (isTy T x))) := sm_op1 h
/-! arguments -/
def qNil : M σ (List PV) := mP []
def qCons (m : M σ PV) (r : M σ (List PV)) : M σ (List PV) := mB m fun x => mB r fun xs => mP (x :: xs)
theorem sm_anil : SmA G aNil (mP []) := Sm.of (fun _ _ _ => rfl) rfl
theorem sm_acons (h : SmV G fv mv) (h2 : SmA G fs ms) : SmA G (aCons (opv fv) fs) (qCons mv ms) := by
  have h1 : Sm G (fun (a : PV) (o : OV) => o = .v a) (opv fv) mv := by
    have := Sm.bind (rl' := fun (a : PV) (o : OV) => o = .v a) (g := fun x S1 => R.ok (OV.v x) S1) (k := fun a => (mP a : M σ PV)) h fun a b e => Sm.of (fun _ _ _ => rfl) (by rw [e])
    rw [show mB mv (fun a => (mP a : M σ PV)) = mv from mB_id mv] at this
    exact this
  refine Sm.conv (Sm.bind h1 fun a o ho => Sm.bind h2 fun as os hos => ?_) fun S => rfl
  exact Sm.of (fun _ _ _ => rfl) (by rw [ho, hos]; rfl)
theorem sm_onil : SmOs G aNil (mP []) := Sm.of (fun _ _ _ => rfl) (fun _ _ _ => rfl)
theorem sm_ocons (h : SmO G fa ma) (h2 : SmOs G fs ms) : SmOs G (aCons fa fs) (qCons ma ms) := by
  refine Sm.conv (Sm.bind h fun a o ho => Sm.bind h2 fun as os hos => ?_) fun S => rfl
  refine Sm.of (fun _ _ _ => rfl) fun s S hS => ?_
  show (match look S o, lookAll S os with
    | some x, some xs => some (x :: xs)
    | _, _ => none) = _
  rw [ho s S hS, hos s S hS]
theorem valsOf_vs : ∀ xs : List PV, valsOf (xs.map OV.v) = some xs
  | [] => rfl
  | x :: xs => by
    show (valsOf (xs.map OV.v)).map (x :: ·) = _
    rw [valsOf_vs xs]
    rfl
def qOpA (sem : List PV → Option PV) (m : M σ (List PV)) : M σ PV := mB m fun xs => mO (sem xs)
theorem sm_opA {sem : List PV → Option PV} (h : SmOs G fs ms) : SmV G (opA sem fs) (qOpA sem ms) := by
  refine Sm.conv (Sm.bind h fun as os ho => ?_) fun S => rfl
  refine Sm.ofO fun z hz => ⟨z, rfl, fun s S hS => ?_⟩
  try dsimp only
  rw [ho s S hS]
  try dsimp only
  rw [hz]
def short {α : Type} (xs : List α) : Option (List α) := if xs.length ≤ 16777216 then some xs else none
def qDisp (mk : List PV → PV) (m : M σ (List PV)) : M σ PV := mB m fun xs => mO ((short xs).map mk)
theorem sm_disp {mk : List PV → PV} (h : SmA G fs ms) : SmV G (dispF mk fs) (qDisp mk ms) := by
  refine Sm.conv (Sm.bind h fun as os ho => ?_) fun S => rfl
  subst ho
  refine Sm.ofO fun z hz => ⟨z, rfl, fun s S hS => ?_⟩
  obtain ⟨ys, h1, h2⟩ := Option.map_eq_some_iff.mp hz
  unfold short at h1
  split at h1
  · cases h1
    try dsimp only
    rw [valsOf_vs]
    try dsimp only
    rw [if_pos (by assumption), h2]
  · cases h1
/-! slices -/
theorem sm_pnone : SmP G pNone (mP none) := Sm.of (fun _ _ _ => rfl) rfl
def isI : PV → M σ Int
  | .int i => mP i
  | _ => mF
@[simp] theorem isI_int (i : Int) : (isI (.int i) : M σ Int) = mP i := rfl
theorem sm_psome (h : SmV G fv mv) : SmP G (pSome fv) (mB mv fun x => mB (isI x) fun i => mP (some i)) := by
  refine Sm.conv (Sm.bind h fun a b e => ?_) fun S => rfl
  subst e
  cases b <;> first | exact Sm.fail | exact Sm.of (fun _ _ _ => rfl) rfl
def qSl (m : M σ PV) (l u : M σ (Option Int)) : M σ PV := mB m fun x => mB l fun i => mB u fun j => mO ((sSlX x i j).map RV.val)
theorem sm_sl (h : SmO G fa ma) (h1 : SmP G fp mp) (h2 : SmP G fp2 mp2) : SmX G false (slX fa fp fp2) (qSl ma mp mp2) := by
  refine Sm.conv (Sm.bind h fun a o ho => Sm.bind h1 fun i i' e => Sm.bind h2 fun j j' e' => ?_) fun S => rfl
  subst e; subst e'
  refine Sm.ofO fun z hz => ?_
  obtain ⟨r, h3, h4⟩ := Option.map_eq_some_iff.mp hz
  refine ⟨r, ⟨h4, fun z => by cases z⟩, fun s S hS => ?_⟩
  try dsimp only
  rw [ho s S hS]
  try dsimp only
  rw [h3]
def qSlL (m : M σ PV) (l u : M σ (Option Int)) : M σ PV := mB m fun x => mB l fun i => mB u fun j => mO (((sSlX x i j).map RV.val).bind isL)
theorem sSlX_l {x : PV} {i j : Option Int} {r : RV} {l : List PV} (h : sSlX x i j = some r) (e : r.val = .lst l) : r = .l (.lst l) := by
  unfold sSlX at h
  split at h
  · cases h
    have e' : PV.lst _ = .lst l := e
    rw [e']
  · obtain ⟨w, h1, h2⟩ := Option.map_eq_some_iff.mp h
    subst h2
    have e' : w = .lst l := e
    subst e'
    unfold sSl at h1
    split at h1 <;> first | (cases h1; done) | (split at h1 <;> cases h1)
theorem sm_slL (h : SmO G fa ma) (h1 : SmP G fp mp) (h2 : SmP G fp2 mp2) : SmX G true (slX fa fp fp2) (qSlL ma mp mp2) := by
  refine Sm.conv (Sm.bind h fun a o ho => Sm.bind h1 fun i i' e => Sm.bind h2 fun j j' e' => ?_) fun S => rfl
  subst e; subst e'
  refine Sm.ofO fun z hz => ?_
  obtain ⟨w, h3, h4⟩ := Option.bind_eq_some_iff.mp hz
  obtain ⟨r, h5, h6⟩ := Option.map_eq_some_iff.mp h3
  have hw : ∃ l, w = .lst l ∧ z = .lst l := by
    unfold isL at h4
    split at h4
    · cases h4; exact ⟨_, rfl, rfl⟩
    · cases h4
  obtain ⟨l, rfl, rfl⟩ := hw
  refine ⟨r, ⟨h6, fun _ => sSlX_l h5 h6⟩, fun s S hS => ?_⟩
  try dsimp only
  rw [ho s S hS]
  try dsimp only
  rw [h5]
/-! what is walked -/
def seqO : PV → Option (List PV)
  | .lst xs => some xs
  | .tup xs => some xs
  | .scr ns => some (ns.map .int)
  | .str z => some (chrP z)
  | _ => none
def qSeq (m : M σ PV) : M σ (List PV) := mB m fun x => mO (seqO x)
theorem sm_seq (h : SmV G fv mv) : SmI G (seqI (opv fv)) (qSeq mv) := by
  have h1 : Sm G (fun (a : PV) (o : OV) => o = .v a) (opv fv) mv := by
    have := Sm.bind (rl' := fun (a : PV) (o : OV) => o = .v a) (g := fun x S1 => R.ok (OV.v x) S1) (k := fun a => (mP a : M σ PV)) h fun a b e => Sm.of (fun _ _ _ => rfl) (by rw [e])
    rw [show mB mv (fun a => (mP a : M σ PV)) = mv from mB_id mv] at this
    exact this
  refine Sm.conv (Sm.bind (g := kSeq) h1 fun a o ho => ?_) fun S => seqI_ap'
  subst ho
  refine Sm.ofO fun z hz => ⟨_, rfl, fun s S hS => ?_⟩
  cases a <;> cases hz <;> rfl
def qArg (sem : List PV → Option (List PV)) (m : M σ (List PV)) : M σ (List PV) := mB m fun xs => mO (sem xs)
theorem sm_argI {sem : List PV → Option (List PV)} (h : SmA G fs ms) : SmI G (argI sem fs) (qArg sem ms) := by
  refine Sm.conv (Sm.bind (g := kArg sem) h fun a o ho => ?_) fun S => argI_ap sem
  subst ho
  refine Sm.ofO fun z hz => ⟨_, rfl, fun s S hS => ?_⟩
  rw [kArg_ap, valsOf_vs, kArg1_s, hz, kArg2_s]
def enumO : PV → Option (List PV)
  | .lst xs => some (enumP xs)
  | .tup xs => some (enumP xs)
  | .scr ns => some (enumP (ns.map .int))
  | _ => none
def qEnum (m : M σ PV) : M σ (List PV) := mB m fun x => mO (enumO x)
theorem sm_enum (h : SmV G fv mv) : SmI G (enumI (opv fv)) (qEnum mv) := by
  have h1 : Sm G (fun (a : PV) (o : OV) => o = .v a) (opv fv) mv := by
    have := Sm.bind (rl' := fun (a : PV) (o : OV) => o = .v a) (g := fun x S1 => R.ok (OV.v x) S1) (k := fun a => (mP a : M σ PV)) h fun a b e => Sm.of (fun _ _ _ => rfl) (by rw [e])
    rw [show mB mv (fun a => (mP a : M σ PV)) = mv from mB_id mv] at this
    exact this
  refine Sm.conv (Sm.bind (g := kEnum) h1 fun a o ho => ?_) fun S => enumI_ap
  subst ho
  refine Sm.ofO fun z hz => ⟨_, rfl, fun s S hS => ?_⟩
  cases a <;> cases hz <;> rfl
end
end VL

set_option Elab.async false
set_option linter.all false
set_option autoImplicit false
set_option maxRecDepth 100000
set_option maxHeartbeats 4000000
/-! Q1: calls, comprehensions, statements, loops; the plain reading. -/
namespace VL
open PySem L2
section
variable {σ : Type} {G : σ → List Kn} {fs fs2 : Sk → R (List OV)} {ms ms2 : M σ (List PV)} {fr : Bool}
/-! ### defs -/
/-- by values -/
def FnV (fr : Bool) (F : Fn) (q : List PV → M Unit PV) : Prop := ∀ xs r, q xs () = some (r, ()) → match r with
  | .ok x => ∃ rv outs, F (xs.map Sl.val) = .ok rv outs ∧ xs.length ≤ outs.length ∧ YR fr x rv
  | .exc e => ∃ outs, F (xs.map Sl.val) = .exc e outs ∧ xs.length ≤ outs.length
/-- the first argument is lent -/
def FnB (fr : Bool) (F : Fn) (q : List PV → M PV PV) : Prop := ∀ xs b r b', q xs b = some (r, b') → match r with
  | .ok x => ∃ rv outs, F (.io b :: xs.map Sl.val) = .ok rv (.io b' :: outs) ∧ xs.length ≤ outs.length ∧ YR fr x rv
  | .exc e => ∃ outs, F (.io b :: xs.map Sl.val) = .exc e (.io b' :: outs) ∧ xs.length ≤ outs.length
theorem sm_call {F : Fn} {q : List PV → M Unit PV} (hF : FnV fr F q) (h : SmA G fs ms) : SmX G fr (callX F fs) (mB ms fun xs => mL (q xs)) := by
  refine Sm.conv (Sm.bind (g := kCallX F) h fun xs os ho => ?_) fun S => rfl
  subst ho
  refine ⟨fun s S hS r s' e => ?_⟩
  unfold mL at e
  cases hq : q xs () with
  | none => rw [hq] at e; cases e
  | some p =>
    obtain ⟨r1, u⟩ := p
    rw [hq] at e
    cases e
    have h1 := hF xs r hq
    cases r with
    | ok x =>
      obtain ⟨rv, outs, h2, h3, h4⟩ := h1
      exact ⟨rv, S, call_vals ⟨outs, h2, h3⟩, hS, h4.x⟩
    | exc e =>
      obtain ⟨outs, h2, h3⟩ := h1
      refine ⟨S, ?_, hS⟩
      unfold kCallX kCall
      rw [slots_vals, if_pos List.nodup_nil, argsOf_vals]
      dsimp only
      rw [h2]
      dsimp only
      rw [putOuts_vals S xs outs h3]
theorem callIo {F : Fn} {S1 : Sk} {j : Nat} {c : PV} {xs : List PV} (hc : getO S1 j = some c) : kCallX F (.s j :: xs.map OV.v) S1 = match F (.io c :: xs.map Sl.val) with
    | .stuck => .stuck
    | .ok r outs => (match putOuts S1 (.s j :: xs.map OV.v) outs with
      | some S2 => .ok r S2
      | none => .stuck)
    | .exc e outs => (match putOuts S1 (.s j :: xs.map OV.v) outs with
      | some S2 => .exc e S2
      | none => .stuck) := by
  unfold kCallX kCall
  have e1 : slotsOf (OV.s j :: xs.map OV.v) = [j] := congrArg (j :: ·) (slots_vals xs)
  have e2 : argsOf S1 (OV.s j :: xs.map OV.v) = some (.io c :: xs.map Sl.val) := by
    show (match (getO S1 j).map Sl.io, argsOf S1 (xs.map OV.v) with
      | some a, some as => some (a :: as)
      | _, _ => none) = _
    rw [argsOf_vals, hc]
    rfl
  rw [e1, if_pos (show [j].Nodup by simp), e2]
  dsimp only
  cases F (.io c :: xs.map Sl.val) with
  | stuck => rfl
  | ok r outs => dsimp only; cases putOuts S1 (.s j :: xs.map OV.v) outs <;> rfl
  | exc e outs => rfl
/-- the slot of the state -/
inductive StSl (j : Nat) (G : PV → List Kn) : Prop
  | io (h : ∀ s, (G s)[j]? = some (.i s)) (k : ∀ s s', G s' = (G s).set j (.i s')) : StSl j G
  | own (h : ∀ s, (G s)[j]? = some (.o s)) (k : ∀ s s', G s' = (G s).set j (.o s')) : StSl j G
theorem StSl.get {j : Nat} {G : PV → List Kn} (T : StSl j G) {s : PV} {S : Sk} (h : AtL (G s) S) : getO S j = some s ∧ ∀ s', AtL (G s') (putO S j s') := by
  cases T with
  | io h1 h2 =>
    obtain ⟨t, h3, h4⟩ := h.get (h1 s)
    cases h4
    refine ⟨by rw [getO_ap, h3]; rfl, fun s' => ?_⟩
    rw [putO_ap, h3, slPut_i, h2 s s']
    exact h.set j rfl
  | own h1 h2 =>
    obtain ⟨t, h3, h4⟩ := h.get (h1 s)
    cases h4
    refine ⟨by rw [getO_ap, h3]; rfl, fun s' => ?_⟩
    rw [putO_ap, h3, slPut_o, h2 s s']
    exact h.set j rfl
theorem sm_callB {G : PV → List Kn} {ms : M PV (List PV)} {F : Fn} {q : List PV → M PV PV} (j : Nat) (hF : FnB fr F q) (T : StSl j G) (h : SmA G fs ms) : SmX G fr (callX F (aCons (opx j) fs)) (mB ms q) := by
  have h1 : Sm G (fun as os => os = OV.s j :: as.map OV.v) (aCons (opx j) fs) ms := by
    have := Sm.bind (rl' := fun (as : List PV) os => os = OV.s j :: as.map OV.v) (g := fun os S2 => R.ok (OV.s j :: os) S2) (k := fun a => (mP a : M PV (List PV))) h fun a b e => Sm.of (fun _ _ _ => rfl) (by rw [e])
    rw [show mB ms (fun a => (mP a : M PV (List PV))) = ms from mB_id ms] at this
    refine ⟨fun s S hS r s' e => ?_⟩
    have g := (T.get hS).1
    have e1 : aCons (opx j) fs S = (fs S).bind fun os S2 => .ok (OV.s j :: os) S2 := by
      have e2 : opx j S = .ok (.s j) S := by
        have g' : slLook S[j]? = some s := by rw [← getO_ap]; exact g
        rw [opx_ap]
        cases hh : S[j]? with
        | none => rw [hh] at g'; cases g'
        | some t => rw [hh] at g'; cases t <;> first | rfl | cases g'
      unfold aCons
      rw [e2, R.bind_ok]
    rw [e1]
    exact this.go s S hS r s' e
  refine Sm.conv (Sm.bind (g := kCallX F) h1 fun xs os ho => ?_) fun S => rfl
  subst ho
  refine ⟨fun s S hS r s' e => ?_⟩
  obtain ⟨g, p⟩ := T.get hS
  have h2 := hF xs s r s' e
  rw [callIo g]
  cases r with
  | ok x =>
    obtain ⟨rv, outs, h3, h4, h5⟩ := h2
    rw [h3]
    dsimp only
    rw [show putOuts S (OV.s j :: xs.map OV.v) (.io s' :: outs) = putOuts (putO S j s') (xs.map OV.v) outs from rfl, putOuts_vals _ xs outs h4]
    exact ⟨rv, _, rfl, p s', h5.x⟩
  | exc x =>
    obtain ⟨outs, h3, h4⟩ := h2
    rw [h3]
    dsimp only
    rw [show putOuts S (OV.s j :: xs.map OV.v) (.io s' :: outs) = putOuts (putO S j s') (xs.map OV.v) outs from rfl, putOuts_vals _ xs outs h4]
    exact ⟨_, rfl, p s'⟩
theorem gI_map {α β : Type} (f : α → β) (is : List Nat) (l : List α) : gI is (l.map f) = (gI is l).map f := by
  unfold gI
  rw [List.map_filterMap]
  congr 1
  funext i
  rw [List.getElem?_map]
/-- keywords -/
def qKw (n m : Nat) (is : List Nat) (a k : M σ (List PV)) : M σ (List PV) := mB a fun xs => mB k fun ys => if xs.length = n ∧ ys.length = m then mP (gI is (xs ++ ys)) else mF
theorem sm_kw {n m : Nat} {is : List Nat} (h : SmA G fs ms) (h2 : SmA G fs2 ms2) : SmA G (fka n m is fs fs2) (qKw n m is ms ms2) := by
  refine Sm.conv (Sm.bind h fun xs os ho => Sm.bind h2 fun ys ps hp => ?_) fun S => rfl
  subst ho; subst hp
  by_cases hl : xs.length = n ∧ ys.length = m
  · rw [if_pos hl]
    refine Sm.of (fun s S _ => ?_) rfl
    dsimp only
    rw [List.length_map, List.length_map, if_pos hl, ← List.map_append, gI_map]
  · rw [if_neg hl]
    exact Sm.fail
end

/-! ### targets -/
def sets (ks : List Kn) : List Nat → List PV → List Kn
  | i :: is, y :: ys => sets (ks.set i (.v y)) is ys
  | _, _ => ks
def upAt (ks : List Kn) (i : Nat) : Prop := ∃ k, ks[i]? = some k ∧ k.up = true
theorem upAt.unp {ks : List Kn} {i : Nat} {S : Sk} (h : upAt ks i) (a : AtL ks S) : unpinned S i = true := by
  obtain ⟨k, h1, h2⟩ := h
  obtain ⟨s, h3, h4⟩ := a.get h1
  show slUnp S[i]? = true
  rw [h3]
  show (!pinned s) = true
  rw [h4.up h2]
  rfl
theorem upAt.set {ks : List Kn} {i j : Nat} {y : PV} (h : upAt ks i) : upAt (ks.set j (.v y)) i := by
  obtain ⟨k, h1, h2⟩ := h
  by_cases e : j = i
  · subst e
    refine ⟨.v y, ?_, rfl⟩
    have hl : j < ks.length := by
      rcases Nat.lt_or_ge j ks.length with l | l
      · exact l
      · rw [List.getElem?_eq_none l] at h1; cases h1
    rw [List.getElem?_set_self hl]
  · exact ⟨k, by rw [List.getElem?_set_ne e]; exact h1, h2⟩
/-- a target takes a value apart -/
structure Tg (g : PV → Sk → Option Sk) (is : List Nat) (pt : PV → Option (List PV)) : Prop where
  go : ∀ (ks : List Kn) (S : Sk) (x : PV) (ys : List PV), AtL ks S → (∀ i ∈ is, upAt ks i) → pt x = some ys → ys.length = is.length ∧ ∃ S', g x S = some S' ∧ AtL (sets ks is ys) S'
structure Tgs (g : List PV → Sk → Option Sk) (is : List Nat) (pt : List PV → Option (List PV)) : Prop where
  go : ∀ (ks : List Kn) (S : Sk) (x : List PV) (ys : List PV), AtL ks S → (∀ i ∈ is, upAt ks i) → pt x = some ys → ys.length = is.length ∧ ∃ S', g x S = some S' ∧ AtL (sets ks is ys) S'
def pt1 : PV → Option (List PV) := fun x => some [x]
def ptNil : List PV → Option (List PV)
  | [] => some []
  | _ => none
def oApp (a b : Option (List PV)) : Option (List PV) := match a, b with
  | some a, some b => some (a ++ b)
  | _, _ => none
@[simp] theorem oApp_some (a b : List PV) : oApp (some a) (some b) = some (a ++ b) := rfl
theorem oApp_inv {a b : Option (List PV)} {ys : List PV} (h : oApp a b = some ys) : ∃ l m, a = some l ∧ b = some m ∧ ys = l ++ m := by
  cases a with
  | none => cases h
  | some l => cases b with
    | none => cases h
    | some m => cases h; exact ⟨l, m, rfl, rfl, rfl⟩
def ptCons (p : PV → Option (List PV)) (r : List PV → Option (List PV)) : List PV → Option (List PV)
  | x :: xs => oApp (p x) (r xs)
  | [] => none
@[simp] theorem pt1_ap (x : PV) : pt1 x = some [x] := rfl
@[simp] theorem ptNil_ap : ptNil [] = some [] := rfl
@[simp] theorem ptCons_ap (p : PV → Option (List PV)) (r : List PV → Option (List PV)) (x : PV) (xs : List PV) : ptCons p r (x :: xs) = oApp (p x) (r xs) := rfl
def ptTup (p : List PV → Option (List PV)) : PV → Option (List PV)
  | .tup xs => p xs
  | _ => none
@[simp] theorem ptTup_ap (p : List PV → Option (List PV)) (xs : List PV) : ptTup p (.tup xs) = p xs := rfl
theorem tg_set (i : Nat) : Tg (gSet i) [i] pt1 := by
  refine ⟨fun ks S x ys h u e => ?_⟩
  cases e
  refine ⟨rfl, S.set i (.val x), ?_, h.set i rfl⟩
  unfold gSet
  rw [if_pos ((u i List.mem_cons_self).unp h)]
theorem tgs_nil : Tgs gsNil [] ptNil := by
  refine ⟨fun ks S x ys h u e => ?_⟩
  cases x with
  | nil => cases e; exact ⟨rfl, S, rfl, h⟩
  | cons a b => cases e
theorem sets_app : ∀ (is js : List Nat) (a b : List PV) (ks : List Kn), a.length = is.length → sets ks (is ++ js) (a ++ b) = sets (sets ks is a) js b
  | [], js, [], b, ks, _ => rfl
  | i :: is, js, x :: a, b, ks, h => sets_app is js a b _ (Nat.succ.inj h)
  | [], _, _ :: _, _, _, h => by cases h
  | _ :: _, _, [], _, _, h => by cases h
theorem upAt.sets : ∀ (is : List Nat) (ys : List PV) {ks : List Kn} {i : Nat}, upAt ks i → upAt (sets ks is ys) i
  | [], ys, ks, i, h => by cases ys <;> exact h
  | _ :: _, [], ks, i, h => h
  | j :: is, y :: ys, ks, i, h => upAt.sets is ys (h.set (j := j) (y := y))
theorem tgs_cons {g : PV → Sk → Option Sk} {r : List PV → Sk → Option Sk} {is js : List Nat} {p : PV → Option (List PV)} {q : List PV → Option (List PV)} (h : Tg g is p) (h2 : Tgs r js q) : Tgs (gsCons g r) (is ++ js) (ptCons p q) := by
  refine ⟨fun ks S x ys a u e => ?_⟩
  cases x with
  | nil => cases e
  | cons x xs =>
    obtain ⟨l, m, h3, h4, rfl⟩ := oApp_inv e
    obtain ⟨l1, S1, e1, a1⟩ := h.go ks S x l a (fun i hi => u i (List.mem_append_left _ hi)) h3
    obtain ⟨l2, S2, e2, a2⟩ := h2.go _ S1 xs m a1 (fun i hi => (u i (List.mem_append_right _ hi)).sets is l) h4
    refine ⟨by rw [List.length_append, List.length_append, l1, l2], S2, ?_, by rw [sets_app is js l m ks l1]; exact a2⟩
    show (match g x S with
      | some S1 => r xs S1
      | none => none) = some S2
    rw [e1]
    exact e2
theorem tg_tup {n : Nat} {g : List PV → Sk → Option Sk} {is : List Nat} {p : List PV → Option (List PV)} (h : Tgs g is p) (hn : ∀ xs ys, p xs = some ys → xs.length = n) : Tg (gTupF n g) is (ptTup p) := by
  refine ⟨fun ks S x ys a u e => ?_⟩
  cases x <;> first | (cases e; done) | skip
  rename_i xs
  obtain ⟨l, S', e1, a1⟩ := h.go ks S xs ys a u e
  refine ⟨l, S', ?_, a1⟩
  show (if xs.length = n then g xs S else none) = _
  rw [if_pos (hn xs ys e)]
  exact e1
theorem ptNil_len : ∀ xs ys, ptNil xs = some ys → xs.length = 0 := fun xs ys e => by
  cases xs with
  | nil => rfl
  | cons a b => cases e
theorem ptCons_len {p : PV → Option (List PV)} {q : List PV → Option (List PV)} {n : Nat} (h : ∀ xs ys, q xs = some ys → xs.length = n) : ∀ xs ys, ptCons p q xs = some ys → xs.length = n + 1 := fun xs ys e => by
  cases xs with
  | nil => cases e
  | cons a b =>
    obtain ⟨l, m, h3, h4, rfl⟩ := oApp_inv e
    rw [List.length_cons, h b m h4]
/-- values by number -/
def un0 {α : Type} (k : α) (d : α) : List PV → α
  | [] => k
  | _ => d
@[simp] theorem un0_ap {α : Type} (k d : α) : un0 k d [] = k := rfl
def un1 {α : Type} (k : PV → α) (d : α) : List PV → α
  | [x] => k x
  | _ => d
def un2 {α : Type} (k : PV → PV → α) (d : α) : List PV → α
  | [x, y] => k x y
  | _ => d
def un3 {α : Type} (k : PV → PV → PV → α) (d : α) : List PV → α
  | [x, y, z] => k x y z
  | _ => d
def un4 {α : Type} (k : PV → PV → PV → PV → α) (d : α) : List PV → α
  | [x, y, z, u] => k x y z u
  | _ => d
def un5 {α : Type} (k : PV → PV → PV → PV → PV → α) (d : α) : List PV → α
  | [x, y, z, u, v] => k x y z u v
  | _ => d
def un6 {α : Type} (k : PV → PV → PV → PV → PV → PV → α) (d : α) : List PV → α
  | [x, y, z, u, v, w] => k x y z u v w
  | _ => d
def un7 {α : Type} (k : PV → PV → PV → PV → PV → PV → PV → α) (d : α) : List PV → α
  | [x, y, z, u, v, w, a] => k x y z u v w a
  | _ => d
def un8 {α : Type} (k : PV → PV → PV → PV → PV → PV → PV → PV → α) (d : α) : List PV → α
  | [x, y, z, u, v, w, a, b] => k x y z u v w a b
  | _ => d
section
variable {α : Type} {d : α}
@[simp] theorem un1_ap (k : PV → α) (x : PV) : un1 k d [x] = k x := rfl
@[simp] theorem un2_ap (k : PV → PV → α) (x y : PV) : un2 k d [x, y] = k x y := rfl
@[simp] theorem un3_ap (k : PV → PV → PV → α) (x y z : PV) : un3 k d [x, y, z] = k x y z := rfl
@[simp] theorem un4_ap (k : PV → PV → PV → PV → α) (x y z u : PV) : un4 k d [x, y, z, u] = k x y z u := rfl
@[simp] theorem un5_ap (k : PV → PV → PV → PV → PV → α) (x y z u v : PV) : un5 k d [x, y, z, u, v] = k x y z u v := rfl
@[simp] theorem un6_ap (k : PV → PV → PV → PV → PV → PV → α) (x y z u v w : PV) : un6 k d [x, y, z, u, v, w] = k x y z u v w := rfl
@[simp] theorem un7_ap (k : PV → PV → PV → PV → PV → PV → PV → α) (x y z u v w a : PV) : un7 k d [x, y, z, u, v, w, a] = k x y z u v w a := rfl
@[simp] theorem un8_ap (k : PV → PV → PV → PV → PV → PV → PV → PV → α) (x y z u v w a b : PV) : un8 k d [x, y, z, u, v, w, a, b] = k x y z u v w a b := rfl
end

/-! ### comprehensions -/
section
variable {σ : Type} {G Gc : σ → List Kn}
def compQ {α : Type} (c : α → M σ Bool) (e : α → M σ PV) : List α → M σ (List PV)
  | [] => mP []
  | x :: xs => mB (c x) fun b => if b = true then mB (e x) fun y => mB (compQ c e xs) fun ys => mP (y :: ys) else compQ c e xs
/-- no error leaves it -/
def mK {α : Type} (m : M σ α) : M σ α := fun s => match m s with
  | some (.ok a, s') => some (.ok a, s')
  | _ => none
@[simp] theorem mK_pure {α : Type} (a : α) : mK (mP a : M σ α) = mP a := rfl
@[simp] theorem mK_fail {α : Type} : mK (mF : M σ α) = mF := rfl
/-- the rows that are walked, taken apart -/
def ptAll (pt : PV → Option (List PV)) : List PV → Option (List (List PV))
  | [] => some []
  | x :: xs => match pt x, ptAll pt xs with
    | some a, some b => some (a :: b)
    | _, _ => none
def qComp (pt : PV → Option (List PV)) (mi : M σ (List PV)) (c : List PV → M σ Bool) (e : List PV → M σ PV) : M σ PV := mB mi fun xs => mB (mO (short xs)) fun xs => mB (mO (ptAll pt xs)) fun rs => mB (mK (compQ c e rs)) fun ys => mP (.lst ys)
def wipeK (ks : List Kn) : List Nat → List Kn
  | [] => ks
  | v :: vs => wipeK (ks.set v .n) vs
def CvOk (G : σ → List Kn) : List Nat → Prop
  | [] => True
  | v :: vs => ((∀ s, (G s)[v]? = some .n) ∨ ∃ x, ∀ s, (G s)[v]? = some (.v x)) ∧ CvOk G vs
theorem wipe_at : ∀ (vs : List Nat) {ks : List Kn} {S : Sk}, AtL ks S → AtL (wipeK ks vs) (wipeS S vs)
  | [], _, _, h => h
  | v :: vs, _, _, h => wipe_at vs (h.set v (show Kn.At .n .no from rfl))
theorem wipeK_set : ∀ (vs : List Nat) {ks : List Kn} {v : Nat} {x : PV}, v ∈ vs → wipeK (ks.set v (.v x)) vs = wipeK ks vs
  | v :: vs, ks, w, x, h => by
    unfold wipeK
    by_cases e : v = w
    · subst e
      rw [List.set_set]
    · rcases List.mem_cons.mp h with z | z
      · exact absurd z.symm e
      · rw [List.set_comm _ _ (fun z => e z.symm)]
        exact wipeK_set vs z
  | [], _, _, _, h => by cases h
theorem wipeK_sets : ∀ (is : List Nat) (ys : List PV) {vs : List Nat} {ks : List Kn}, (∀ i ∈ is, i ∈ vs) → wipeK (sets ks is ys) vs = wipeK ks vs
  | [], ys, vs, ks, _ => by cases ys <;> rfl
  | _ :: _, [], vs, ks, _ => rfl
  | i :: is, y :: ys, vs, ks, h => by
    show wipeK (sets (ks.set i (.v y)) is ys) vs = _
    rw [wipeK_sets is ys fun j hj => h j (List.mem_cons_of_mem _ hj), wipeK_set vs (h i List.mem_cons_self)]
theorem wipeK_n : ∀ (vs : List Nat) {ks : List Kn} {v : Nat}, wipeK (ks.set v .n) vs = (wipeK ks vs).set v .n
  | [], _, _ => rfl
  | w :: vs, ks, v => by
    unfold wipeK
    by_cases e : v = w
    · subst e
      rw [wipeK_n vs (ks := ks.set v .n), ← wipeK_n vs]
    · rw [List.set_comm _ _ e, wipeK_n vs]
theorem wipeK_wipe : ∀ (vs : List Nat) {ks : List Kn}, wipeK (wipeK ks vs) vs = wipeK ks vs
  | [], _ => rfl
  | v :: vs, ks => by
    show wipeK ((wipeK (ks.set v .n) vs).set v .n) vs = wipeK (ks.set v .n) vs
    rw [← wipeK_n vs, List.set_set, wipeK_wipe vs]
theorem compL_sm {g : PV → Sk → Option Sk} {is vs : List Nat} {pt : PV → Option (List PV)} {c : Sk → R Bool} {e : Sk → R PV} {mc : List PV → M σ Bool} {me : List PV → M σ PV} (tg : Tg g is pt) (hv : ∀ i ∈ is, i ∈ vs)
    (hu : ∀ s, ∀ i ∈ is, upAt (wipeK (G s) vs) i)
    (hc : ∀ ys, ys.length = is.length → SmT (fun s => sets (wipeK (G s) vs) is ys) c (mc ys)) (he : ∀ ys, ys.length = is.length → SmV (fun s => sets (wipeK (G s) vs) is ys) e (me ys)) :
    ∀ (xs : List PV) (rs : List (List PV)) (s : σ) (S : Sk), ptAll pt xs = some rs → AtL (wipeK (G s) vs) S → ∀ ys s', compQ mc me rs s = some (.ok ys, s') → ∃ S', compL g c e vs xs S = .ok ys S' ∧ AtL (wipeK (G s') vs) S'
  | [], rs, s, S, hp, hS, ys, s', q => by
    cases hp
    cases q
    exact ⟨S, rfl, hS⟩
  | x :: xs, rs, s, S, hp, hS, ys, s', q => by
    unfold ptAll at hp
    cases h1 : pt x with
    | none => rw [h1] at hp; cases hp
    | some a =>
      cases h2 : ptAll pt xs with
      | none => rw [h1, h2] at hp; cases hp
      | some b =>
        rw [h1, h2] at hp
        cases hp
        obtain ⟨la, S1, e1, a1⟩ := tg.go _ S x a hS (hu s) h1
        obtain ⟨t, s1, h3, q⟩ := mB_inv q
        obtain ⟨t', S2, e2, a2, e0⟩ := (hc a la).go s S1 a1 _ s1 h3
        subst e0
        unfold compL
        rw [e1]
        dsimp only
        rw [e2, R.bind_ok]
        cases t' with
        | false =>
          have q' : compQ mc me b s1 = some (.ok ys, s') := q
          rw [if_neg (by decide)]
          have a3 := wipe_at vs a2
          rw [wipeK_sets is a hv, wipeK_wipe] at a3
          exact compL_sm tg hv hu hc he xs b s1 _ h2 a3 ys s' q'
        | true =>
          have q' : mB (me a) (fun y => mB (compQ mc me b) fun ys => mP (y :: ys)) s1 = some (.ok ys, s') := q
          rw [if_pos rfl]
          obtain ⟨y, s2, h4, q2⟩ := mB_inv q'
          obtain ⟨y', S3, e3, a3, e0⟩ := (he a la).go s1 S2 a2 _ s2 h4
          subst e0
          have a4 := wipe_at vs a3
          rw [wipeK_sets is a hv, wipeK_wipe] at a4
          obtain ⟨zs, s3, h5, q3⟩ := mB_inv q2
          cases q3
          obtain ⟨S5, e5, a5⟩ := compL_sm tg hv hu hc he xs b s2 _ h2 a4 zs s' h5
          exact ⟨S5, by rw [e3, R.bind_ok, e5, R.bind_ok], a5⟩
theorem back_at : ∀ (vs : List Nat) {G : σ → List Kn} {s s' : σ} {S0 S : Sk} {ks : List Kn}, CvOk G vs → AtL (G s) S0 → (∀ v ∈ vs, upAt ks v) → AtL ks S → (∀ i, i ∉ vs → ks[i]? = (G s')[i]?) → ks.length = (G s').length → AtL (G s') (back S0 S vs)
  | [], G, s, s', S0, S, ks, _, _, _, h, e, l => by
    rw [back_nil]
    have : ks = G s' := List.ext_getElem? fun i => e i (by simp)
    rw [← this]
    exact h
  | v :: vs, G, s, s', S0, S, ks, hc, h0, hu, h, e, l => by
    rw [back_cons]
    have step : ∀ (k : Kn) (t : Sl), k.At t → k.up = true → (G s')[v]? = some k → AtL (G s') (back S0 (S.set v t) vs) := fun k t kt ku hk => by
      refine back_at vs (ks := ks.set v k) hc.2 h0 (fun w hw => ?_) (h.set v kt) (fun i hi => ?_) (by rw [List.length_set]; exact l)
      · obtain ⟨k', h1, h2⟩ := hu w (List.mem_cons_of_mem _ hw)
        by_cases e : v = w
        · subst e
          have hl : v < ks.length := by
            rcases Nat.lt_or_ge v ks.length with l | l
            · exact l
            · rw [List.getElem?_eq_none l] at h1; cases h1
          exact ⟨k, List.getElem?_set_self hl, ku⟩
        · exact ⟨k', by rw [List.getElem?_set_ne e]; exact h1, h2⟩
      · by_cases ee : v = i
        · subst ee
          obtain ⟨k', h1, h2⟩ := hu v List.mem_cons_self
          have hl : v < ks.length := by
            rcases Nat.lt_or_ge v ks.length with l | l
            · exact l
            · rw [List.getElem?_eq_none l] at h1; cases h1
          rw [List.getElem?_set_self hl, hk]
        · rw [List.getElem?_set_ne ee]
          exact e i fun z => by
            rcases List.mem_cons.mp z with z | z
            · exact ee z.symm
            · exact hi z
    rcases hc.1 with hn | ⟨x, hx⟩
    · refine step .n _ ?_ rfl (hn s')
      obtain ⟨t, h1, h2⟩ := h0.get (hn s)
      rw [h1]
      cases t <;> rfl
    · refine step (.v x) _ ?_ rfl (hx s')
      obtain ⟨t, h1, h2⟩ := h0.get (hx s)
      cases h2
      rw [h1]
      rfl
theorem wipeK_get : ∀ (vs : List Nat) {ks : List Kn} {i : Nat}, i ∉ vs → (wipeK ks vs)[i]? = ks[i]?
  | [], _, _, _ => rfl
  | v :: vs, ks, i, h => by
    show (wipeK (ks.set v .n) vs)[i]? = _
    rw [wipeK_get vs (fun z => h (List.mem_cons_of_mem _ z)), List.getElem?_set_ne (fun z => h (by rw [z]; exact List.mem_cons_self))]
theorem wipeK_len : ∀ (vs : List Nat) {ks : List Kn}, (wipeK ks vs).length = ks.length
  | [], _ => rfl
  | v :: vs, ks => by
    show (wipeK (ks.set v .n) vs).length = _
    rw [wipeK_len vs, List.length_set]
theorem wipeK_up : ∀ (vs : List Nat) {ks : List Kn} {v : Nat}, v ∈ vs → v < ks.length → upAt (wipeK ks vs) v
  | w :: vs, ks, v, h, l => by
    show upAt (wipeK (ks.set w .n) vs) v
    by_cases e : v = w
    · subst e
      rw [wipeK_n]
      exact ⟨.n, List.getElem?_set_self (by rw [wipeK_len]; exact l), rfl⟩
    · rcases List.mem_cons.mp h with z | z
      · exact absurd z e
      · exact wipeK_up vs z (by rw [List.length_set]; exact l)
  | [], _, _, h, _ => by cases h
theorem compQ_len {α : Type} {c : α → M σ Bool} {e : α → M σ PV} : ∀ (xs : List α) (s : σ) (ys : List PV) (s' : σ), compQ c e xs s = some (.ok ys, s') → ys.length ≤ xs.length
  | [], s, ys, s', h => by cases h; exact Nat.le_refl _
  | x :: xs, s, ys, s', h => by
    obtain ⟨t, s1, h3, q⟩ := mB_inv h
    cases t with
    | false =>
      have q' : compQ c e xs s1 = some (.ok ys, s') := q
      exact Nat.le_succ_of_le (compQ_len xs s1 ys s' q')
    | true =>
      have q' : mB (e x) (fun y => mB (compQ c e xs) fun ys => mP (y :: ys)) s1 = some (.ok ys, s') := q
      obtain ⟨y, s2, h4, q2⟩ := mB_inv q'
      obtain ⟨zs, s3, h5, q3⟩ := mB_inv q2
      cases q3
      exact Nat.succ_le_succ (compQ_len xs s2 zs s' h5)
theorem ptAll_len {pt : PV → Option (List PV)} : ∀ (xs : List PV) (rs : List (List PV)), ptAll pt xs = some rs → rs.length = xs.length
  | [], rs, h => by cases h; rfl
  | x :: xs, rs, h => by
    unfold ptAll at h
    cases h1 : pt x with
    | none => rw [h1] at h; cases h
    | some a =>
      cases h2 : ptAll pt xs with
      | none => rw [h1, h2] at h; cases h
      | some b =>
        rw [h1, h2] at h
        cases h
        exact congrArg Nat.succ (ptAll_len xs b h2)
theorem sm_comp {fi : Sk → R (List PV × Option Nat)} {mi : M σ (List PV)} {g : PV → Sk → Option Sk} {is vs : List Nat} {pt : PV → Option (List PV)} {c : Sk → R Bool} {e : Sk → R PV} {mc : List PV → M σ Bool} {me : List PV → M σ PV}
    (hi : SmI G fi mi) (tg : Tg g is pt) (hv : ∀ i ∈ is, i ∈ vs) (hl : ∀ s, ∀ v ∈ vs, v < (G s).length) (hk : CvOk G vs)
    (hc : ∀ ys, ys.length = is.length → SmT (fun s => sets (wipeK (G s) vs) is ys) c (mc ys)) (he : ∀ ys, ys.length = is.length → SmV (fun s => sets (wipeK (G s) vs) is ys) e (me ys)) : SmV G (compF fi g c e vs) (qComp pt mi mc me) := by
  refine Sm.conv (Sm.bind (g := kComp g c e vs) hi fun xs r hr => ?_) fun S => compF_ap
  subst hr
  refine ⟨fun s S hS r s' q => ?_⟩
  rw [kComp_none]
  unfold short at q
  split at q
  · rename_i hle
    rw [mO_some, mB_pure] at q
    cases h1 : ptAll pt xs with
    | none => rw [h1] at q; cases q
    | some rs =>
      rw [h1, mO_some, mB_pure] at q
      unfold mB mK at q
      cases h2 : compQ mc me rs s with
      | none => rw [h2] at q; cases q
      | some p =>
        obtain ⟨r1, s1⟩ := p
        rw [h2] at q
        cases r1 with
        | exc z => cases q
        | ok ys =>
          cases q
          obtain ⟨S2, e2, a2⟩ := compL_sm tg hv (fun s i hi => wipeK_up vs (hv i hi) (hl s i (hv i hi))) hc he xs rs s (wipeS S vs) h1 (wipe_at vs hS) ys s' h2
          have hy := compQ_len rs s ys s' h2
          rw [ptAll_len xs rs h1] at hy
          refine ⟨.lst ys, back S S2 vs, ?_, ?_, rfl⟩
          · rw [e2, kComp3_ok, if_pos (Nat.le_trans hy hle), giveL_none, kGive_s]
          · exact back_at vs hk hS (fun v hv => wipeK_up vs hv (hl s' v hv)) a2 (fun i hi => wipeK_get vs hi) (wipeK_len vs)
  · cases q
end
end VL

set_option Elab.async false
set_option linter.all false
set_option autoImplicit false
set_option maxRecDepth 100000
set_option maxHeartbeats 4000000
/-! Q2: statements, loops, defs. -/
namespace VL
open PySem L2
inductive Ct (τ β : Type) where
  | nx (t : τ) | rt (x : PV) | bk (t : β) | ct (t : β)
/-- what a def leaves at its end -/
structure Zt (σ : Type) where
  fr : Bool
  P : σ → List Kn → Prop
def Zt.ok {σ : Type} (Z : Zt σ) (s : σ) (S : Sk) : Prop := ∃ ks, Z.P s ks ∧ AtL ks S
section
variable {σ τ τ' β : Type} {G : σ → List Kn} {Z : Zt σ} {Gb : β → σ → List Kn} {Gn : τ → σ → List Kn} {Gn' : τ' → σ → List Kn}
structure Ss (G : σ → List Kn) (Z : Zt σ) (Gb : β → σ → List Kn) (Gn : τ → σ → List Kn) (F : Sk → O) (m : M σ (Ct τ β)) : Prop where
  go : ∀ s S, AtL (G s) S → ∀ r s', m s = some (r, s') → match r with
    | .ok (.nx t) => ∃ S', F S = .nx S' ∧ AtL (Gn t s') S'
    | .ok (.rt x) => ∃ rv S', F S = .rt rv S' ∧ YR Z.fr x rv ∧ Z.ok s' S'
    | .ok (.bk t) => ∃ S', F S = .bk S' ∧ AtL (Gb t s') S'
    | .ok (.ct t) => ∃ S', F S = .ct S' ∧ AtL (Gb t s') S'
    | .exc e => ∃ S', F S = .exc e S' ∧ Z.ok s' S'
def qsK (k : τ → M σ (Ct τ' β)) : Ct τ β → M σ (Ct τ' β)
  | .nx t => k t
  | .rt x => mP (.rt x)
  | .bk t => mP (.bk t)
  | .ct t => mP (.ct t)
@[simp] theorem qsK_nx (k : τ → M σ (Ct τ' β)) (t : τ) : qsK k (.nx t) = k t := rfl
@[simp] theorem qsK_rt (k : τ → M σ (Ct τ' β)) (t : PV) : qsK k (.rt t) = mP (.rt t) := rfl
@[simp] theorem qsK_bk (k : τ → M σ (Ct τ' β)) (t : β) : qsK k (.bk t) = mP (.bk t) := rfl
@[simp] theorem qsK_ct (k : τ → M σ (Ct τ' β)) (t : β) : qsK k (.ct t) = mP (.ct t) := rfl
/-- one behind another -/
def qS (m : M σ (Ct τ β)) (k : τ → M σ (Ct τ' β)) : M σ (Ct τ' β) := mB m (qsK k)
theorem mB_inv' {α γ : Type} {m : M σ α} {k : α → M σ γ} {s s' : σ} {r : Rs γ} (h : mB m k s = some (r, s')) : (∃ a s1, m s = some (.ok a, s1) ∧ k a s1 = some (r, s')) ∨ ∃ e, m s = some (.exc e, s') ∧ r = .exc e := by
  unfold mB at h
  cases hm : m s with
  | none => rw [hm] at h; cases h
  | some p =>
    obtain ⟨r, s1⟩ := p
    rw [hm] at h
    cases r with
    | ok a => exact .inl ⟨a, s1, rfl, h⟩
    | exc e => cases h; exact .inr ⟨e, rfl, rfl⟩
theorem ss_seq {F F2 : Sk → O} {m : M σ (Ct τ β)} {k : τ → M σ (Ct τ' β)} (h : Ss G Z Gb Gn F m) (h2 : ∀ t, Ss (Gn t) Z Gb Gn' F2 (k t)) : Ss G Z Gb Gn' (seqF F F2) (qS m k) := by
  refine ⟨fun s S hS r s' e => ?_⟩
  unfold seqF
  rcases mB_inv' e with ⟨c, s1, h3, h4⟩ | ⟨x, h3, rfl⟩
  · have h5 := h.go s S hS _ s1 h3
    cases c with
    | nx t =>
      obtain ⟨S1, e1, a1⟩ := h5
      rw [e1]
      exact (h2 t).go s1 S1 a1 r s' h4
    | rt x => cases h4; obtain ⟨rv, S1, e1, a1⟩ := h5; rw [e1]; exact ⟨rv, S1, rfl, a1⟩
    | bk t => cases h4; obtain ⟨S1, e1, a1⟩ := h5; rw [e1]; exact ⟨S1, rfl, a1⟩
    | ct t => cases h4; obtain ⟨S1, e1, a1⟩ := h5; rw [e1]; exact ⟨S1, rfl, a1⟩
  · obtain ⟨S1, e1, a1⟩ := h.go s S hS _ s' h3
    rw [e1]
    exact ⟨S1, rfl, a1⟩
theorem ss_nx (t : τ) (hw : ∀ s, Wk (G s) (Gn t s)) : Ss G Z Gb Gn nxF (mP (.nx t)) := ⟨fun s S hS r s' e => by cases e; exact ⟨S, rfl, (hw s).at hS⟩⟩
theorem ss_bk (t : β) (hw : ∀ s, Wk (G s) (Gb t s)) : Ss G Z Gb Gn bkF (mP (.bk t)) := ⟨fun s S hS r s' e => by cases e; exact ⟨S, rfl, (hw s).at hS⟩⟩
theorem ss_ct (t : β) (hw : ∀ s, Wk (G s) (Gb t s)) : Ss G Z Gb Gn ctF (mP (.ct t)) := ⟨fun s S hS r s' e => by cases e; exact ⟨S, rfl, (hw s).at hS⟩⟩
theorem ss_pass : Ss G Z Gb (fun (_ : Unit) => G) nxF (mP (.nx ())) := ⟨fun s S hS r s' e => by cases e; exact ⟨S, rfl, hS⟩⟩
theorem ss_frz {F : Sk → O} {m : M σ (Ct τ β)} (j : Nat) {x : PV} (hj : ∀ s, (G s)[j]? = some (.o x)) (h : Ss (fun s => (G s).set j (.v x)) Z Gb Gn F m) : Ss G Z Gb Gn (frzF j F) m := by
  refine ⟨fun s S hS r s' e => ?_⟩
  have : frzS j S = S.set j (.val x) := by
    obtain ⟨t, h1, h2⟩ := hS.get (hj s)
    cases h2
    unfold frzS
    rw [h1]
  have e2 : frzF j F S = F (S.set j (.val x)) := by
    unfold frzF
    rw [this]
  rw [e2]
  exact h.go s _ (hS.set j rfl) r s' e
variable {A B : Type} {rl : A → B → Prop}
/-- an expression, then what is done with it -/
theorem Ss.of {f : Sk → R B} {m : M σ A} {F : B → Sk → O} {k : A → M σ (Ct τ β)} (h : Sm G rl f m) (hz : ∀ s, Z.P s (G s)) (hk : ∀ a b, rl a b → Ss G Z Gb Gn (F b) (k a)) : Ss G Z Gb Gn (fun S => (f S).toO F) (mB m k) := by
  refine ⟨fun s S hS r s' e => ?_⟩
  rcases mB_inv' e with ⟨a, s1, h3, h4⟩ | ⟨x, h3, rfl⟩
  · obtain ⟨b, S1, e1, a1, r1⟩ := h.go s S hS _ s1 h3
    rw [e1]
    exact (hk a b r1).go s1 S1 a1 r s' h4
  · obtain ⟨S1, e1, a1⟩ := h.go s S hS _ s' h3
    rw [e1]
    exact ⟨S1, rfl, G s', hz s', a1⟩
theorem ss_ret {fx : Sk → R RV} {m : M σ PV} (h : Sm G (YR Z.fr) fx m) (hz : ∀ s, Z.P s (G s)) : Ss G Z Gb Gn (retX fx) (mB m fun x => mP (.rt x)) :=
  Ss.of h hz fun a b e => ⟨fun s S hS r s' q => by cases q; exact ⟨b, S, rfl, e, G s, hz s, hS⟩⟩
theorem ss_retN (hf : Z.fr = false) (hz : ∀ s, Z.P s (G s)) : Ss G Z Gb Gn retNF (mP (.rt .non)) :=
  ⟨fun s S hS r s' q => by cases q; exact ⟨_, S, rfl, by unfold YR; rw [hf]; rfl, G s, hz s, hS⟩⟩
/-- a local of ours is given out -/
theorem ss_retM (j : Nat) {x : PV} (hf : Z.fr = true) (hj : ∀ s, (G s)[j]? = some (.o x)) (hz : ∀ s, Z.P s ((G s).set j .n)) : Ss G Z Gb Gn (retX (moveX j)) (mP (.rt x)) := by
  refine ⟨fun s S hS r s' q => ?_⟩
  cases q
  obtain ⟨t, h1, h2⟩ := hS.get (hj s)
  cases h2
  refine ⟨.l x, S.set j .no, ?_, by unfold YR; rw [hf]; rfl, _, hz s, hS.set j (show Kn.At .n .no from rfl)⟩
  show (moveX j S).toO _ = _
  unfold moveX
  rw [h1]
  rfl
theorem ss_if {ft : Sk → R Bool} {mt : M σ Bool} {F1 F2 : Sk → O} {m1 m2 : M σ (Ct τ β)} (h : SmT G ft mt) (hz : ∀ s, Z.P s (G s)) (h1 : Ss G Z Gb Gn F1 m1) (h2 : Ss G Z Gb Gn F2 m2) : Ss G Z Gb Gn (ifS ft F1 F2) (qIf mt m1 m2) := by
  refine Ss.of h hz fun a b e => ?_
  subst e
  cases b
  · exact h2
  · exact h1
def qSet (m : M σ PV) : M σ (Ct PV β) := mB m fun x => mP (.nx x)
theorem upG {G : σ → List Kn} {i : Nat} {s : σ} {S : Sk} (h : upAt (G s) i) (hS : AtL (G s) S) : unpinned S i = true := h.unp hS
theorem sm_xV' {fv : Sk → R PV} {m : M σ PV} (h : SmV G fv m) : Sm G (fun a r => r = RV.v a) (xV fv) m := by
  have := Sm.bind (rl' := fun (a : PV) (r : RV) => r = RV.v a) (g := fun r S1 => R.ok (RV.v r) S1) (k := fun a => (mP a : M σ PV)) h fun a b e => Sm.of (fun _ _ _ => rfl) (by rw [e])
  rw [show mB m (fun a => (mP a : M σ PV)) = m from mB_id m] at this
  exact this
/-- a value is named -/
theorem ss_setV {fv : Sk → R PV} {m : M σ PV} (i : Nat) (h : SmV G fv m) (hz : ∀ s, Z.P s (G s)) (hu : ∀ s, upAt (G s) i) : Ss G Z Gb (fun x s => (G s).set i (.v x)) (setX (xV fv) i) (qSet m) := by
  refine Ss.of (sm_xV' h) hz fun a b e => ⟨fun s S hS r s' q => ?_⟩
  cases q
  subst e
  refine ⟨S.set i (.val a), ?_, hS.set i rfl⟩
  rw [if_pos ((hu s).unp hS)]
/-- a new list of ours -/
theorem ss_setL {fx : Sk → R RV} {m : M σ PV} (i : Nat) (h : SmX G true fx m) (hz : ∀ s, Z.P s (G s)) (hu : ∀ s, upAt (G s) i) : Ss G Z Gb (fun x s => (G s).set i (.o x)) (setX fx i) (qSet m) := by
  refine Ss.of h hz fun a b e => ⟨fun s S hS r s' q => ?_⟩
  cases q
  have e := e.2 rfl
  subst e
  refine ⟨S.set i (.own a), ?_, hS.set i rfl⟩
  rw [if_pos ((hu s).unp hS)]
/-- .. the state -/
theorem ss_setS {G : PV → List Kn} {Z : Zt PV} {Gb : β → PV → List Kn} {fx : Sk → R RV} {m : M PV PV} (i : Nat) (h : SmX G true fx m) (hz : ∀ s, Z.P s (G s)) (hu : ∀ s, upAt (G s) i) (hG : ∀ s s', (G s).set i (.o s') = (G s').set i (.o s')) :
    Ss G Z Gb (fun (_ : Unit) s => (G s).set i (.o s)) (setX fx i) (mB m fun x => mB (mSt x) fun _ => mP (.nx ())) := by
  refine Ss.of h hz fun a b e => ⟨fun s S hS r s' q => ?_⟩
  cases q
  have e := e.2 rfl
  subst e
  refine ⟨S.set i (.own a), ?_, ?_⟩
  · rw [if_pos ((hu s).unp hS)]
  · rw [← hG s a]
    exact hS.set i rfl
theorem ss_expr {fv : Sk → R PV} {m : M σ PV} (h : SmV G fv m) (hz : ∀ s, Z.P s (G s)) : Ss G Z Gb (fun (_ : Unit) => G) (exprF fv) (mB m fun _ => mP (.nx ())) :=
  Ss.of h hz fun a b e => ⟨fun s S hS r s' q => by cases q; exact ⟨S, rfl, hS⟩⟩
theorem sm_acons1 {fv : Sk → R PV} {m : M σ PV} (h : SmV G fv m) : Sm G (fun (a : PV) os => os = [OV.v a]) (aCons (opv fv) aNil) m := by
  have := Sm.bind (rl' := fun (a : PV) os => os = [OV.v a]) (g := fun x S1 => R.ok [OV.v x] S1) (k := fun a => (mP a : M σ PV)) h fun a b e => Sm.of (fun _ _ _ => rfl) (by rw [e])
  rw [show mB m (fun a => (mP a : M σ PV)) = m from mB_id m] at this
  refine Sm.conv this fun S => ?_
  unfold aCons opv aNil
  cases fv S <;> rfl
/-- a.append(e) -/
def appO (l y : PV) : Option PV := (sAppend l [y]).map (·.2)
theorem ss_append {fv : Sk → R PV} {m : M σ PV} (j : Nat) {l : List PV} (h : SmV G fv m) (hj : ∀ s, (G s)[j]? = some (.o (.lst l))) (hz : ∀ s, Z.P s (G s)) :
    Ss G Z Gb (fun x s => (G s).set j (.o x)) (exprF (mutF j agV sAppend (aCons (opv fv) aNil))) (mB m fun y => mB (mO (appO (.lst l) y)) fun x => mP (.nx x)) := by
  have hm : ∀ s S, AtL (G s) S → exprF (mutF j agV sAppend (aCons (opv fv) aNil)) S = (aCons (opv fv) aNil S).toO fun os S1 => (kMut1 j agV sAppend os S1).toO kExpr := fun s S hS => by
    obtain ⟨t, h1, h2⟩ := hS.get (hj s)
    cases h2
    rw [exprF_ap, mutF_ap, getO_ap, h1]
    show ((aCons (opv fv) aNil S).bind (kMut1 j agV sAppend)).toO kExpr = _
    cases aCons (opv fv) aNil S <;> rfl
  have := Ss.of (Gb := Gb) (Gn := fun x s => (G s).set j (.o x)) (F := fun os S1 => (kMut1 j agV sAppend os S1).toO kExpr) (k := fun y => mB (mO (appO (.lst l) y)) fun x => mP (.nx x)) (sm_acons1 h) hz fun a b e => by
    subst e
    refine ⟨fun s S hS r s' q => ?_⟩
    cases ho : appO (.lst l) a with
    | none => rw [ho] at q; cases q
    | some x =>
      rw [ho] at q
      cases q
      obtain ⟨t, h1, h2⟩ := hS.get (hj s)
      cases h2
      obtain ⟨p, h3, h4⟩ := Option.map_eq_some_iff.mp ho
      obtain ⟨z, c⟩ := p
      cases h4
      refine ⟨S.set j (.own c), ?_, hS.set j rfl⟩
      have e1 : getO S j = some (.lst l) := by rw [getO_ap, h1]; rfl
      have e2 : agV S [OV.v a] = some [a] := rfl
      rw [kMut1_ap, e1, e2, kMut2_ap, h3, kMut3_ap, putO_ap, h1]
      rfl
  refine ⟨fun s S hS r s' q => ?_⟩
  rw [hm s S hS]
  exact this.go s S hS r s' q
def extO (l y : PV) : Option PV := (sExtend l [y]).map (·.2)
theorem ss_extend {fo : Sk → R OV} {m : M σ PV} (j : Nat) {l : List PV} (h : SmO G fo m) (hj : ∀ s, (G s)[j]? = some (.o (.lst l))) (hz : ∀ s, Z.P s (G s)) :
    Ss G Z Gb (fun x s => (G s).set j (.o x)) (exprF (mutF j lookAll sExtend (aCons fo aNil))) (mB m fun y => mB (mO (extO (.lst l) y)) fun x => mP (.nx x)) := by
  have h' : Sm G (fun (y : PV) os => ∃ o, os = [o] ∧ OR G y o) (aCons fo aNil) m := by
    have := Sm.bind (rl' := fun (y : PV) os => ∃ o, os = [o] ∧ OR G y o) (g := fun x S1 => R.ok [x] S1) (k := fun a => (mP a : M σ PV)) h fun a b e => Sm.of (fun _ _ _ => rfl) ⟨b, rfl, e⟩
    rw [show mB m (fun a => (mP a : M σ PV)) = m from mB_id m] at this
    refine Sm.conv this fun S => ?_
    unfold aCons aNil
    cases fo S <;> rfl
  have hm : ∀ s S, AtL (G s) S → exprF (mutF j lookAll sExtend (aCons fo aNil)) S = (aCons fo aNil S).toO fun os S1 => (kMut1 j lookAll sExtend os S1).toO kExpr := fun s S hS => by
    obtain ⟨t, h1, h2⟩ := hS.get (hj s)
    cases h2
    rw [exprF_ap, mutF_ap, getO_ap, h1]
    show ((aCons fo aNil S).bind (kMut1 j lookAll sExtend)).toO kExpr = _
    cases aCons fo aNil S <;> rfl
  have := Ss.of (Gb := Gb) (Gn := fun x s => (G s).set j (.o x)) (F := fun os S1 => (kMut1 j lookAll sExtend os S1).toO kExpr) (k := fun y => mB (mO (extO (.lst l) y)) fun x => mP (.nx x)) h' hz fun a b e => by
    obtain ⟨o, rfl, ho'⟩ := e
    refine ⟨fun s S hS r s' q => ?_⟩
    cases ho : extO (.lst l) a with
    | none => rw [ho] at q; cases q
    | some x =>
      rw [ho] at q
      cases q
      obtain ⟨t, h1, h2⟩ := hS.get (hj s)
      cases h2
      obtain ⟨p, h3, h4⟩ := Option.map_eq_some_iff.mp ho
      obtain ⟨z, c⟩ := p
      cases h4
      refine ⟨S.set j (.own c), ?_, hS.set j rfl⟩
      have e1 : getO S j = some (.lst l) := by rw [getO_ap, h1]; rfl
      have e2 : lookAll S [o] = some [a] := by
        show (match look S o, some [] with
          | some x, some xs => some (x :: xs)
          | _, _ => none) = _
        rw [ho' s S hS]
      rw [kMut1_ap, e1, e2, kMut2_ap, h3, kMut3_ap, putO_ap, h1]
      rfl
  refine ⟨fun s S hS r s' q => ?_⟩
  rw [hm s S hS]
  exact this.go s S hS r s' q
/-- x, y = .. : two values -/
def qPar (m n : M σ PV) : M σ (Ct (PV × PV) β) := mB m fun x => mB n fun y => mP (.nx (x, y))
theorem ss_par {fa fb : Sk → R PV} {m n : M σ PV} (i j : Nat) (h : SmV G fa m) (h2 : SmV G fb n) (hz : ∀ s, Z.P s (G s)) (hu : ∀ s, upAt (G s) i) (hv : ∀ s, upAt (G s) j) :
    Ss G Z Gb (fun t s => ((G s).set i (.v t.1)).set j (.v t.2)) (parF i j (aCons (opv fa) (aCons (opv fb) aNil))) (qPar m n) := by
  have h3 : Sm G (fun (p : PV × PV) os => os = [OV.v p.1, OV.v p.2]) (aCons (opv fa) (aCons (opv fb) aNil)) (mB m fun x => mB n fun y => mP (x, y)) := by
    have := Sm.bind (rl' := fun (p : PV × PV) os => os = [OV.v p.1, OV.v p.2]) (g := fun x S1 => (fb S1).bind fun y S2 => R.ok [OV.v x, OV.v y] S2) (k := fun a => mB n fun y => mP (a, y)) h fun a b e => Sm.bind h2 fun c d e' => Sm.of (fun _ _ _ => rfl) (by rw [e, e'])
    refine Sm.conv this fun S => ?_
    unfold aCons opv aNil
    cases fa S with
    | stuck => rfl
    | exc x S1 => rfl
    | ok x S1 =>
      simp only [R.bind_ok]
      cases fb S1 <;> rfl
  have h4 := Ss.of (Z := Z) (Gb := Gb) (Gn := fun (t : PV × PV) s => ((G s).set i (.v t.1)).set j (.v t.2)) (F := kPar i j) (k := fun p => mP (.nx p)) h3 hz fun a b e => by
    subst e
    refine ⟨fun s S hS r s' q => ?_⟩
    cases q
    refine ⟨(S.set i (.val a.1)).set j (.val a.2), ?_, AtL.set j (k := .v a.2) (s := .val a.2) (AtL.set i (k := .v a.1) (s := .val a.1) hS rfl) rfl⟩
    rw [kPar_ap, if_pos ⟨(hu s).unp hS, (hv s).unp hS⟩]
  refine ⟨fun s S hS r s' q => ?_⟩
  rw [parF_ap]
  refine h4.go s S hS r s' ?_
  rw [← q]
  simp only [qPar, mB_assoc, mB_pure]
theorem ss_parL {fa fb : Sk → R PV} {m n : M σ PV} (i j : Nat) (h : SmV G fa m) (h2 : SmV G fb n) (hz : ∀ s, Z.P s (G s)) (hu : ∀ s, upAt (G s) i) (hv : ∀ s, upAt (G s) j) :
    Ss G Z Gb (fun t s => ((G s).set i (.o t.1)).set j (.o t.2)) (parLF i j fa fb) (qPar m n) := by
  refine Ss.of h hz fun a b e => ?_
  subst e
  refine Ss.of h2 hz fun c d e => ?_
  subst e
  refine ⟨fun s S hS r s' q => ?_⟩
  cases q
  refine ⟨(S.set i (.own b)).set j (.own d), ?_, AtL.set j (k := .o d) (s := .own d) (AtL.set i (k := .o b) (s := .own b) hS rfl) rfl⟩
  rw [if_pos ⟨(hu s).unp hS, (hv s).unp hS⟩]
/-- a value is taken apart -/
def qAsg (pt : PV → Option (List PV)) (m : M σ PV) : M σ (Ct (List PV) β) := mB m fun x => mB (mO (pt x)) fun ys => mP (.nx ys)
theorem ss_asg {fv : Sk → R PV} {m : M σ PV} {g : PV → Sk → Option Sk} {is : List Nat} {pt : PV → Option (List PV)} (h : SmV G fv m) (tg : Tg g is pt) (hz : ∀ s, Z.P s (G s)) (hu : ∀ s, ∀ i ∈ is, upAt (G s) i) :
    Ss G Z Gb (fun ys s => sets (G s) is ys) (asgF fv g) (qAsg pt m) := by
  refine Ss.of h hz fun a b e => ?_
  subst e
  refine ⟨fun s S hS r s' q => ?_⟩
  cases hp : pt b with
  | none => rw [hp] at q; cases q
  | some ys =>
    rw [hp] at q
    cases q
    obtain ⟨_, S', e1, a1⟩ := tg.go _ S b ys hS (hu s) hp
    refine ⟨S', ?_, a1⟩
    rw [e1]
theorem ss_aug {fv : Sk → R PV} {m : M σ PV} {sem : PV → PV → Option PV} (i : Nat) {x : PV} (h : SmV G fv m) (hi : ∀ s, (G s)[i]? = some (.v x)) (hz : ∀ s, Z.P s (G s)) :
    Ss G Z Gb (fun x s => (G s).set i (.v x)) (augF i sem fv) (mB m fun y => mB (mO (sem x y)) fun z => mP (.nx z)) := by
  have h4 := Ss.of (Z := Z) (Gb := Gb) (Gn := fun x s => (G s).set i (.v x)) (F := kAug i sem x) (k := fun y => mB (mO (sem x y)) fun z => mP (.nx z)) h hz fun a b e => by
    subst e
    refine ⟨fun s S hS r s' q => ?_⟩
    cases hp : sem x b with
    | none => rw [hp] at q; cases q
    | some z =>
      rw [hp] at q
      cases q
      refine ⟨S.set i (.val z), ?_, hS.set i rfl⟩
      rw [kAug_ap, hp, kAug1_ap, if_pos (upAt.unp ⟨_, hi s, rfl⟩ hS)]
  refine ⟨fun s S hS r s' q => ?_⟩
  obtain ⟨t, h1, h2⟩ := hS.get (hi s)
  cases h2
  rw [augF_ap, h1, kAug0_ap]
  exact h4.go s S hS r s' q
/-- a[i] = e of a list of ours -/
def stO (l : List PV) (x : PV) : PV → Option PV
  | .int k => (ixN l.length k).map fun m => .lst (l.set m x)
  | _ => none
theorem ss_st {fv fi : Sk → R PV} {m n : M σ PV} (j : Nat) {l : List PV} (h : SmV G fv m) (h2 : SmV G fi n) (hj : ∀ s, (G s)[j]? = some (.o (.lst l))) (hz : ∀ s, Z.P s (G s)) :
    Ss G Z Gb (fun x s => (G s).set j (.o x)) (stF j fv fi) (mB m fun x => mB n fun i => mB (mO (stO l x i)) fun z => mP (.nx z)) := by
  have h4 := Ss.of (Z := Z) (Gb := Gb) (Gn := fun x s => (G s).set j (.o x)) (F := kSt1 j fi) (k := fun x => mB n fun i => mB (mO (stO l x i)) fun z => mP (.nx z)) h hz fun a b e => by
    subst e
    refine Ss.of h2 hz fun c d e => ?_
    subst e
    refine ⟨fun s S hS r s' q => ?_⟩
    cases hp : stO l b d with
    | none => rw [hp] at q; cases q
    | some z =>
      rw [hp] at q
      cases q
      cases d <;> first | (cases hp; done) | skip
      rename_i k
      obtain ⟨w, h5, h6⟩ := Option.map_eq_some_iff.mp hp
      obtain ⟨t, h1, h2⟩ := hS.get (hj s)
      cases h2
      refine ⟨S.set j (.own z), ?_, hS.set j rfl⟩
      have e1 : getO S j = some (.lst l) := by rw [getO_ap, h1]; rfl
      rw [kSt2_ap, e1, kSt3_ap, h5, kSt4_ap, putO_ap, h1, ← h6]
      rfl
  refine ⟨fun s S hS r s' q => ?_⟩
  obtain ⟨t, h1, h2⟩ := hS.get (hj s)
  cases h2
  have e1 : getO S j = some (.lst l) := by rw [getO_ap, h1]; rfl
  rw [stF_ap, e1, kSt0_ap]
  exact h4.go s S hS r s' q
end
end VL

set_option Elab.async false
set_option linter.all false
set_option autoImplicit false
set_option maxRecDepth 100000
set_option maxHeartbeats 4000000
/-! Q3: loops, defs. -/
namespace VL
open PySem L2
section
variable {σ τ β : Type} {G : σ → List Kn} {Z : Zt σ} {Gb : β → σ → List Kn} {K : τ → σ → List Kn}
/-- a for loop over what is walked -/
def forM {α : Type} (body : τ → α → M σ (Ct τ τ)) : List α → τ → M σ (Ct τ β)
  | [], t => mP (.nx t)
  | x :: xs, t => mB (body t x) fun c => match c with
    | .nx t => forM body xs t
    | .ct t => forM body xs t
    | .bk t => mP (.nx t)
    | .rt r => mP (.rt r)
def qFor (pt : PV → Option (List PV)) (mi : M σ (List PV)) (body : τ → List PV → M σ (Ct τ τ)) (t : τ) : M σ (Ct τ β) := mB mi fun xs => mB (mO (ptAll pt xs)) fun rs => forM body rs t
theorem loop_sm {g : PV → Sk → Option Sk} {is : List Nat} {pt : PV → Option (List PV)} {F : Sk → O} {body : τ → List PV → M σ (Ct τ τ)} (tg : Tg g is pt) (hu : ∀ t s, ∀ i ∈ is, upAt (K t s) i)
    (hb : ∀ t ys, ys.length = is.length → Ss (fun s => sets (K t s) is ys) Z K K F (body t ys)) :
    ∀ (xs : List PV) (rs : List (List PV)) (t : τ) (s : σ) (S : Sk), ptAll pt xs = some rs → AtL (K t s) S → ∀ r s', (forM body rs t : M σ (Ct τ β)) s = some (r, s') → match r with
    | .ok (.nx t) => ∃ S', loopF g F xs S = .nx S' ∧ AtL (K t s') S'
    | .ok (.rt x) => ∃ rv S', loopF g F xs S = .rt rv S' ∧ YR Z.fr x rv ∧ Z.ok s' S'
    | .ok (.bk t) => False
    | .ok (.ct t) => False
    | .exc e => ∃ S', loopF g F xs S = .exc e S' ∧ Z.ok s' S'
  | [], rs, t, s, S, hp, hS, r, s', q => by
    cases hp
    cases q
    exact ⟨S, rfl, hS⟩
  | x :: xs, rs, t, s, S, hp, hS, r, s', q => by
    unfold ptAll at hp
    cases h1 : pt x with
    | none => rw [h1] at hp; cases hp
    | some a =>
      cases h2 : ptAll pt xs with
      | none => rw [h1, h2] at hp; cases hp
      | some b =>
        rw [h1, h2] at hp
        cases hp
        obtain ⟨la, S1, e1, a1⟩ := tg.go _ S x a hS (hu t s) h1
        have e0 : ∀ o, F S1 = o → loopF g F (x :: xs) S = match o with
          | .nx S2 => loopF g F xs S2
          | .ct S2 => loopF g F xs S2
          | .bk S2 => .nx S2
          | .rt r S2 => .rt r S2
          | .exc e S2 => .exc e S2
          | .stuck => .stuck := fun o ho => by
          show (match g x S with
            | none => O.stuck
            | some S1 => match F S1 with
              | .nx S2 => loopF g F xs S2
              | .ct S2 => loopF g F xs S2
              | .bk S2 => .nx S2
              | .rt r S2 => .rt r S2
              | .exc e S2 => .exc e S2
              | .stuck => .stuck) = _
          rw [e1, ← ho]
        rcases mB_inv' q with ⟨c, s1, h3, h4⟩ | ⟨z, h3, rfl⟩
        · have h5 := (hb t a la).go s S1 a1 _ s1 h3
          cases c with
          | nx t2 =>
            obtain ⟨S2, e2, a2⟩ := h5
            rw [e0 _ e2]
            exact loop_sm tg hu hb xs b t2 s1 S2 h2 a2 r s' h4
          | ct t2 =>
            obtain ⟨S2, e2, a2⟩ := h5
            rw [e0 _ e2]
            exact loop_sm tg hu hb xs b t2 s1 S2 h2 a2 r s' h4
          | bk t2 =>
            obtain ⟨S2, e2, a2⟩ := h5
            cases h4
            rw [e0 _ e2]
            exact ⟨S2, rfl, a2⟩
          | rt v =>
            obtain ⟨rv, S2, e2, a2⟩ := h5
            cases h4
            rw [e0 _ e2]
            exact ⟨rv, S2, rfl, a2⟩
        · obtain ⟨S2, e2, a2⟩ := (hb t a la).go s S1 a1 _ s' h3
          rw [e0 _ e2]
          exact ⟨S2, rfl, a2⟩
theorem ss_for {fi : Sk → R (List PV × Option Nat)} {mi : M σ (List PV)} {g : PV → Sk → Option Sk} {is : List Nat} {pt : PV → Option (List PV)} {F : Sk → O} {body : τ → List PV → M σ (Ct τ τ)} (t0 : τ)
    (hi : SmI G fi mi) (tg : Tg g is pt) (hz : ∀ s, Z.P s (G s)) (hw : ∀ s, Wk (G s) (K t0 s)) (hu : ∀ t s, ∀ i ∈ is, upAt (K t s) i)
    (hb : ∀ t ys, ys.length = is.length → Ss (fun s => sets (K t s) is ys) Z K K F (body t ys)) : Ss G Z Gb K (forF fi g F) (qFor pt mi body t0) := by
  have h4 := Ss.of (Z := Z) (Gb := Gb) (Gn := K) (F := kFor g F) (k := fun xs => mB (mO (ptAll pt xs)) fun rs => forM body rs t0) hi hz fun xs b e => by
    subst e
    refine ⟨fun s S hS r s' q => ?_⟩
    rw [kFor_ap]
    cases hp : ptAll pt xs with
    | none => rw [hp] at q; cases q
    | some rs =>
      rw [hp] at q
      have := loop_sm (β := β) (Z := Z) tg hu hb xs rs t0 s S hp ((hw s).at hS) r s' q
      cases r with
      | exc e => exact this
      | ok c => cases c <;> first | exact this | exact this.elim
  exact ⟨fun s S hS r s' q => by rw [forF_ap]; exact h4.go s S hS r s' q⟩
/-- a while loop -/
def whM (c : τ → M σ Bool) (body : τ → M σ (Ct τ τ)) : Nat → τ → M σ (Ct τ β)
  | 0, _ => mF
  | n + 1, t => mB (c t) fun b => if b = true then mB (body t) fun c' => match c' with
      | .nx t => whM c body n t
      | .ct t => whM c body n t
      | .bk t => mP (.nx t)
      | .rt r => mP (.rt r)
    else mP (.nx t)
open Classical in
noncomputable def whileM (c : τ → M σ Bool) (body : τ → M σ (Ct τ τ)) (t : τ) : M σ (Ct τ β) := fun s => if h : ∃ n r, (whM c body n t : M σ (Ct τ β)) s = some r then (whM c body (Classical.choose h) t : M σ (Ct τ β)) s else none
theorem wh_sm {fc : Sk → R Bool} {F : Sk → O} {c : τ → M σ Bool} {body : τ → M σ (Ct τ τ)} (hz : ∀ t s, Z.P s (K t s)) (hc : ∀ t, SmT (K t) fc (c t)) (hb : ∀ t, Ss (K t) Z K K F (body t)) :
    ∀ (n : Nat) (t : τ) (s : σ) (S : Sk), AtL (K t s) S → ∀ r s', (whM c body n t : M σ (Ct τ β)) s = some (r, s') → match r with
    | .ok (.nx t) => ∃ S', whileN fc F n S = .nx S' ∧ AtL (K t s') S'
    | .ok (.rt x) => ∃ rv S', whileN fc F n S = .rt rv S' ∧ YR Z.fr x rv ∧ Z.ok s' S'
    | .ok (.bk t) => False
    | .ok (.ct t) => False
    | .exc e => ∃ S', whileN fc F n S = .exc e S' ∧ Z.ok s' S'
  | 0, t, s, S, hS, r, s', q => by cases q
  | n + 1, t, s, S, hS, r, s', q => by
    have e0 : whileN fc F (n + 1) S = (fc S).toO fun b S1 => if b = true then (match F S1 with
      | .nx S2 => whileN fc F n S2
      | .ct S2 => whileN fc F n S2
      | .bk S2 => .nx S2
      | .rt r S2 => .rt r S2
      | .exc e S2 => .exc e S2
      | .stuck => .stuck) else .nx S1 := rfl
    rw [e0]
    rcases mB_inv' q with ⟨b, s1, h3, h4⟩ | ⟨z, h3, rfl⟩
    · obtain ⟨b', S1, e1, a1, rfl⟩ := (hc t).go s S hS _ s1 h3
      rw [e1]
      simp only [R.toO_ok]
      cases b' with
      | false => cases h4; exact ⟨S1, rfl, a1⟩
      | true =>
        rw [if_pos rfl]
        rcases mB_inv' (show mB (body t) (fun c' => match c' with
          | .nx t => whM c body n t
          | .ct t => whM c body n t
          | .bk t => mP (.nx t)
          | .rt r => mP (.rt r)) s1 = some (r, s') from h4) with ⟨d, s2, h5, h6⟩ | ⟨z, h5, rfl⟩
        · have h7 := (hb t).go s1 S1 a1 _ s2 h5
          cases d with
          | nx t2 => obtain ⟨S2, e2, a2⟩ := h7; rw [e2]; exact wh_sm hz hc hb n t2 s2 S2 a2 r s' h6
          | ct t2 => obtain ⟨S2, e2, a2⟩ := h7; rw [e2]; exact wh_sm hz hc hb n t2 s2 S2 a2 r s' h6
          | bk t2 => obtain ⟨S2, e2, a2⟩ := h7; cases h6; rw [e2]; exact ⟨S2, rfl, a2⟩
          | rt v => obtain ⟨rv, S2, e2, a2⟩ := h7; cases h6; rw [e2]; exact ⟨rv, S2, rfl, a2⟩
        · obtain ⟨S2, e2, a2⟩ := (hb t).go s1 S1 a1 _ s' h5
          rw [e2]
          exact ⟨S2, rfl, a2⟩
    · obtain ⟨S1, e1, a1⟩ := (hc t).go s S hS _ s' h3
      rw [e1]
      exact ⟨S1, rfl, K t s', hz t s', a1⟩
theorem ss_while {fc : Sk → R Bool} {F : Sk → O} {c : τ → M σ Bool} {body : τ → M σ (Ct τ τ)} (t0 : τ) (hw : ∀ s, Wk (G s) (K t0 s)) (hz : ∀ t s, Z.P s (K t s)) (hc : ∀ t, SmT (K t) fc (c t)) (hb : ∀ t, Ss (K t) Z K K F (body t)) :
    Ss G Z Gb K (whileF fc F) (whileM c body t0) := by
  refine ⟨fun s S hS r s' q => ?_⟩
  unfold whileM at q
  split at q
  · rename_i h
    have := wh_sm (β := β) (Z := Z) hz hc hb (Classical.choose h) t0 s S ((hw s).at hS) r s' q
    have e : ∀ o, whileN fc F (Classical.choose h) S = o → o ≠ .stuck → whileF fc F S = o := fun o ho hn => by
      rw [whileF_of (by rw [ho]; exact hn), ho]
    cases r with
    | exc x => obtain ⟨S', e1, a1⟩ := this; exact ⟨S', e _ e1 (by simp), a1⟩
    | ok c =>
      cases c with
      | nx t => obtain ⟨S', e1, a1⟩ := this; exact ⟨S', e _ e1 (by simp), a1⟩
      | rt t => obtain ⟨rv, S', e1, a1⟩ := this; exact ⟨rv, S', e _ e1 (by simp), a1⟩
      | bk t => exact this.elim
      | ct t => exact this.elim
  · cases q
theorem whM_up {c : τ → M σ Bool} {body : τ → M σ (Ct τ τ)} : ∀ (n : Nat) (t : τ) (s : σ) r, (whM c body n t : M σ (Ct τ β)) s = some r → (whM c body (n + 1) t : M σ (Ct τ β)) s = some r
  | 0, t, s, r, h => by cases h
  | n + 1, t, s, (r, s'), h => by
    have up : ∀ (m : Nat), (whM c body (m + 1) t : M σ (Ct τ β)) = mB (c t) fun b => if b = true then mB (body t) fun c' => match c' with
      | .nx t => whM c body m t
      | .ct t => whM c body m t
      | .bk t => mP (.nx t)
      | .rt r => mP (.rt r)
      else mP (.nx t) := fun _ => rfl
    rw [up] at h ⊢
    rcases mB_inv' h with ⟨b, s1, h3, h4⟩ | ⟨z, h3, rfl⟩
    · rw [mB_ok h3]
      cases b with
      | false => exact h4
      | true =>
        rw [if_pos rfl] at h4 ⊢
        rcases mB_inv' h4 with ⟨d, s2, h5, h6⟩ | ⟨z, h5, rfl⟩
        · rw [mB_ok h5]
          cases d with
          | nx t2 => exact whM_up n t2 s2 _ h6
          | ct t2 => exact whM_up n t2 s2 _ h6
          | bk t2 => exact h6
          | rt v => exact h6
        · unfold mB
          rw [h5]
    · unfold mB
      rw [h3]
theorem whM_le {c : τ → M σ Bool} {body : τ → M σ (Ct τ τ)} {n m : Nat} {t : τ} {s : σ} {r : Rs (Ct τ β) × σ} (h : (whM c body n t : M σ (Ct τ β)) s = some r) (l : n ≤ m) : (whM c body m t : M σ (Ct τ β)) s = some r := by
  induction m with
  | zero => rw [Nat.le_zero.mp l] at h; exact h
  | succ m ih =>
    by_cases e : n = m + 1
    · rw [← e]; exact h
    · exact whM_up m t s r (ih (by omega))
theorem whileM_of {c : τ → M σ Bool} {body : τ → M σ (Ct τ τ)} {n : Nat} {t : τ} {s : σ} {r : Rs (Ct τ β) × σ} (h : (whM c body n t : M σ (Ct τ β)) s = some r) : (whileM c body t : M σ (Ct τ β)) s = some r := by
  have ex : ∃ n r, (whM c body n t : M σ (Ct τ β)) s = some r := ⟨n, r, h⟩
  unfold whileM
  rw [dif_pos ex]
  obtain ⟨r', h2⟩ := Classical.choose_spec ex
  rcases Nat.le_total n (Classical.choose ex) with l | l
  · exact whM_le h l
  · have := whM_le h2 l
    rw [h] at this
    rw [h2, this]
theorem whileM_eq {c : τ → M σ Bool} {body : τ → M σ (Ct τ τ)} (t : τ) : (whileM c body t : M σ (Ct τ β)) = mB (c t) fun b => if b = true then mB (body t) fun c' => match c' with
      | .nx t => whileM c body t
      | .ct t => whileM c body t
      | .bk t => mP (.nx t)
      | .rt r => mP (.rt r)
    else mP (.nx t) := by
  have key : ∀ (n : Nat) (s : σ) r, (whM c body (n + 1) t : M σ (Ct τ β)) s = some r → (mB (c t) fun b => if b = true then mB (body t) fun c' => match c' with
      | .nx t => (whileM c body t : M σ (Ct τ β))
      | .ct t => whileM c body t
      | .bk t => mP (.nx t)
      | .rt r => mP (.rt r)
    else mP (.nx t)) s = some r := fun n s (r, s') h => by
    rcases mB_inv' (show (mB (c t) fun b => if b = true then mB (body t) fun c' => match c' with
      | .nx t => whM c body n t
      | .ct t => whM c body n t
      | .bk t => mP (.nx t)
      | .rt r => mP (.rt r)
      else mP (.nx t) : M σ (Ct τ β)) s = some (r, s') from h) with ⟨b, s1, h3, h4⟩ | ⟨z, h3, rfl⟩
    · rw [mB_ok h3]
      cases b with
      | false => exact h4
      | true =>
        rw [if_pos rfl] at h4 ⊢
        rcases mB_inv' h4 with ⟨d, s2, h5, h6⟩ | ⟨z, h5, rfl⟩
        · rw [mB_ok h5]
          cases d with
          | nx t2 => exact whileM_of h6
          | ct t2 => exact whileM_of h6
          | bk t2 => exact h6
          | rt v => exact h6
        · unfold mB
          rw [h5]
    · unfold mB
      rw [h3]
  funext s
  by_cases ex : ∃ n r, (whM c body n t : M σ (Ct τ β)) s = some r
  · obtain ⟨n, r, h⟩ := ex
    rw [whileM_of h]
    cases n with
    | zero => cases h
    | succ n => exact (key n s r h).symm
  · have e1 : (whileM c body t : M σ (Ct τ β)) s = none := by unfold whileM; rw [dif_neg ex]
    rw [e1]
    cases hh : (mB (c t) fun b => if b = true then mB (body t) fun c' => match c' with
      | .nx t => (whileM c body t : M σ (Ct τ β))
      | .ct t => whileM c body t
      | .bk t => mP (.nx t)
      | .rt r => mP (.rt r)
      else mP (.nx t)) s with
    | none => rfl
    | some r =>
      exfalso
      obtain ⟨r, s'⟩ := r
      refine ex ?_
      have up : ∀ (m : Nat), (whM c body (m + 1) t : M σ (Ct τ β)) = mB (c t) fun b => if b = true then mB (body t) fun c' => match c' with
        | .nx t => whM c body m t
        | .ct t => whM c body m t
        | .bk t => mP (.nx t)
        | .rt r => mP (.rt r)
        else mP (.nx t) := fun _ => rfl
      rcases mB_inv' hh with ⟨b, s1, h3, h4⟩ | ⟨z, h3, rfl⟩
      · cases b with
        | false => exact ⟨1, (r, s'), by rw [up, mB_ok h3]; exact h4⟩
        | true =>
          rw [if_pos rfl] at h4
          rcases mB_inv' h4 with ⟨d, s2, h5, h6⟩ | ⟨z, h5, rfl⟩
          · have pick : ∀ t2, (whileM c body t2 : M σ (Ct τ β)) s2 = some (r, s') → ∃ n, (whM c body n t2 : M σ (Ct τ β)) s2 = some (r, s') := fun t2 hq => by
              unfold whileM at hq
              split at hq
              · exact ⟨_, hq⟩
              · cases hq
            cases d with
            | nx t2 => obtain ⟨n, hn⟩ := pick t2 h6; exact ⟨n + 1, (r, s'), by rw [up, mB_ok h3, if_pos rfl, mB_ok h5]; exact hn⟩
            | ct t2 => obtain ⟨n, hn⟩ := pick t2 h6; exact ⟨n + 1, (r, s'), by rw [up, mB_ok h3, if_pos rfl, mB_ok h5]; exact hn⟩
            | bk t2 => exact ⟨1, (r, s'), by rw [up, mB_ok h3, if_pos rfl, mB_ok h5]; exact h6⟩
            | rt v => exact ⟨1, (r, s'), by rw [up, mB_ok h3, if_pos rfl, mB_ok h5]; exact h6⟩
          · exact ⟨1, _, by rw [up, mB_ok h3, if_pos rfl]; unfold mB; rw [h5]⟩
      · exact ⟨1, _, by rw [up]; unfold mB; rw [h3]⟩
end
/-! ### defs -/
def ZV (fr : Bool) (N : Nat) : Zt Unit := ⟨fr, fun _ ks => ks.length = N⟩
def ZB (fr : Bool) (N : Nat) : Zt PV := ⟨fr, fun s ks => ks.length = N ∧ ks[0]? = some (.i s)⟩
def qEnd {σ : Type} (fr : Bool) (m : M σ (Ct Unit Unit)) : M σ PV := mB m fun c => match c with
  | .rt x => mP x
  | .nx _ => if fr = true then mF else mP .non
  | .bk _ => mF
  | .ct _ => mF
theorem ioOk_vals : ∀ (xs : List PV) (S : Sk), xs.length ≤ S.length → ioOk (xs.map Sl.val) S = true
  | [], S, _ => by cases S <;> rfl
  | x :: xs, s :: S, h => by
    show ioOk (xs.map Sl.val) S = true
    exact ioOk_vals xs S (Nat.le_of_succ_le_succ h)
  | x :: xs, [], h => by cases h
theorem at_args : ∀ (xs : List PV) (n : Nat), AtL (xs.map Kn.v ++ List.replicate n .n) (xs.map Sl.val ++ List.replicate n .no)
  | [], 0 => trivial
  | [], n + 1 => ⟨rfl, at_args [] n⟩
  | x :: xs, n => ⟨rfl, at_args xs n⟩
theorem fnV_at {fr : Bool} {B : Sk → O} {xs : List PV} {n : Nat} {m : M Unit (Ct Unit Unit)} (hn : xs.length ≤ n) (h : Ss (fun _ => xs.map Kn.v ++ List.replicate (n - xs.length) .n) (ZV fr n) (fun _ _ => List.replicate n .n) (fun _ _ => List.replicate n .n) B m) :
    ∀ r, qEnd fr m () = some (r, ()) → match r with
    | .ok x => ∃ rv outs, mkFn xs.length n B (xs.map Sl.val) = .ok rv outs ∧ xs.length ≤ outs.length ∧ YR fr x rv
    | .exc e => ∃ outs, mkFn xs.length n B (xs.map Sl.val) = .exc e outs ∧ xs.length ≤ outs.length := by
  intro r e
  have hl : (xs.map Sl.val).length = xs.length := List.length_map _
  have hmk : ∀ o, B (xs.map Sl.val ++ List.replicate (n - xs.length) .no) = o → mkFn xs.length n B (xs.map Sl.val) = o.toFR (xs.map Sl.val) := fun o ho => by
    unfold mkFn
    rw [if_pos hl, ho]
  have io : ∀ S : Sk, S.length = n → ioOk (xs.map Sl.val) S = true := fun S hS => ioOk_vals xs S (by omega)
  have zl : ∀ S, (ZV fr n).ok () S → S.length = n := fun S ⟨ks, h1, h2⟩ => by rw [h2.len]; exact h1
  rcases mB_inv' e with ⟨c, s1, h3, h4⟩ | ⟨z, h3, rfl⟩
  · have h5 := h.go () _ (at_args xs _) _ s1 h3
    cases c with
    | rt x =>
      cases h4
      obtain ⟨rv, S', e1, a1, z1⟩ := h5
      have hS := zl S' z1
      refine ⟨rv, S', ?_, by omega, a1⟩
      rw [hmk _ e1]
      show (if ioOk (xs.map Sl.val) S' = true then FR.ok rv S' else .stuck) = _
      rw [if_pos (io S' hS)]
    | nx t =>
      cases fr with
      | true => cases h4
      | false =>
        cases h4
        obtain ⟨S', e1, a1⟩ := h5
        have hS : S'.length = n := by rw [a1.len]; exact List.length_replicate ..
        refine ⟨.v .non, S', ?_, by omega, rfl⟩
        rw [hmk _ e1]
        show (if ioOk (xs.map Sl.val) S' = true then FR.ok (.v .non) S' else .stuck) = _
        rw [if_pos (io S' hS)]
    | bk t => cases h4
    | ct t => cases h4
  · obtain ⟨S', e1, z1⟩ := h.go () _ (at_args xs _) _ () h3
    have hS := zl S' z1
    refine ⟨S', ?_, by omega⟩
    rw [hmk _ e1]
    show (if ioOk (xs.map Sl.val) S' = true then FR.exc z S' else .stuck) = _
    rw [if_pos (io S' hS)]
theorem fnB_at {fr : Bool} {B : Sk → O} {xs : List PV} {n : Nat} {m : M PV (Ct Unit Unit)} (hn : xs.length + 1 ≤ n) (h : Ss (fun s => .i s :: (xs.map Kn.v ++ List.replicate (n - (xs.length + 1)) .n)) (ZB fr n) (fun _ s => .i s :: List.replicate (n - 1) .n) (fun _ s => .i s :: List.replicate (n - 1) .n) B m) (b : PV) :
    ∀ r b', qEnd fr m b = some (r, b') → match r with
    | .ok x => ∃ rv outs, mkFn (xs.length + 1) n B (.io b :: xs.map Sl.val) = .ok rv (.io b' :: outs) ∧ xs.length ≤ outs.length ∧ YR fr x rv
    | .exc e => ∃ outs, mkFn (xs.length + 1) n B (.io b :: xs.map Sl.val) = .exc e (.io b' :: outs) ∧ xs.length ≤ outs.length := by
  intro r b' e
  have hl : (Sl.io b :: xs.map Sl.val).length = xs.length + 1 := by rw [List.length_cons, List.length_map]
  have hmk : ∀ o, B (.io b :: (xs.map Sl.val ++ List.replicate (n - (xs.length + 1)) .no)) = o → mkFn (xs.length + 1) n B (.io b :: xs.map Sl.val) = o.toFR (.io b :: xs.map Sl.val) := fun o ho => by
    unfold mkFn
    rw [if_pos hl, ← ho]
    rfl
  have zl : ∀ s S, (ZB fr n).ok s S → ∃ S2, S = .io s :: S2 ∧ S2.length + 1 = n := fun s S ⟨ks, ⟨h1, h0⟩, h2⟩ => by
    cases ks with
    | nil => cases h0
    | cons k ks =>
      cases S with
      | nil => exact h2.elim
      | cons t S =>
        have e0 : k = .i s := by simpa using h0
        subst e0
        have e1 : t = .io s := h2.1
        subst e1
        refine ⟨S, rfl, ?_⟩
        rw [h2.2.len]
        exact h1
  have io : ∀ (c : PV) (S : Sk), S.length + 1 = n → ioOk (.io b :: xs.map Sl.val) (.io c :: S) = true := fun c S hS => ioOk_vals xs S (by omega)
  have h0 : AtL (Kn.i b :: (xs.map Kn.v ++ List.replicate (n - (xs.length + 1)) .n)) (.io b :: (xs.map Sl.val ++ List.replicate (n - (xs.length + 1)) .no)) := ⟨rfl, at_args xs _⟩
  rcases mB_inv' e with ⟨c, s1, h3, h4⟩ | ⟨z, h3, rfl⟩
  · have h5 := h.go b _ h0 _ s1 h3
    cases c with
    | rt x =>
      cases h4
      obtain ⟨rv, S', e1, a1, z1⟩ := h5
      obtain ⟨S2, rfl, hS⟩ := zl _ S' z1
      refine ⟨rv, S2, ?_, by omega, a1⟩
      rw [hmk _ e1]
      show (if ioOk (.io b :: xs.map Sl.val) (.io b' :: S2) = true then FR.ok rv (.io b' :: S2) else .stuck) = _
      rw [if_pos (io _ S2 hS)]
    | nx t =>
      cases fr with
      | true => cases h4
      | false =>
        cases h4
        obtain ⟨S', e1, a1⟩ := h5
        cases S' with
        | nil => exact a1.elim
        | cons u S2 =>
          have e2 : u = .io b' := a1.1
          subst e2
          have hS : S2.length + 1 = n := by
            have := a1.2.len
            rw [this, List.length_replicate]
            omega
          refine ⟨.v .non, S2, ?_, by omega, rfl⟩
          rw [hmk _ e1]
          show (if ioOk (.io b :: xs.map Sl.val) (.io b' :: S2) = true then FR.ok (.v .non) (.io b' :: S2) else .stuck) = _
          rw [if_pos (io _ S2 hS)]
    | bk t => cases h4
    | ct t => cases h4
  · obtain ⟨S', e1, z1⟩ := h.go b _ h0 _ b' h3
    obtain ⟨S2, rfl, hS⟩ := zl _ S' z1
    refine ⟨S2, ?_, by omega⟩
    rw [hmk _ e1]
    show (if ioOk (.io b :: xs.map Sl.val) (.io b' :: S2) = true then FR.exc z (.io b' :: S2) else .stuck) = _
    rw [if_pos (io _ S2 hS)]
end VL

set_option Elab.async false
set_option linter.all false
set_option autoImplicit false
set_option maxRecDepth 100000
set_option maxHeartbeats 4000000
/-! Q4: the rules as gen2.py prints them. -/
namespace VL
open PySem L2
def upB (ks : List Kn) (is : List Nat) : Bool := is.all fun i => match ks[i]? with
  | some k => k.up
  | none => false
theorem upB_of {ks : List Kn} {is : List Nat} (h : upB ks is = true) : ∀ i ∈ is, upAt ks i := fun i hi => by
  have := List.all_eq_true.mp h i hi
  cases hk : ks[i]? with
  | none => rw [hk] at this; cases this
  | some k => rw [hk] at this; exact ⟨k, hk, this⟩
section
variable {σ τ β : Type} {G : σ → List Kn} {Z : Zt σ} {Gb : β → σ → List Kn} {K : τ → σ → List Kn}
theorem qcomp {fi : Sk → R (List PV × Option Nat)} {mi : M σ (List PV)} {g : PV → Sk → Option Sk} {is vs : List Nat} {pt : PV → Option (List PV)} {c : Sk → R Bool} {e : Sk → R PV} {mc : List PV → M σ Bool} {me : List PV → M σ PV}
    (hi : SmI G fi mi) (tg : Tg g is pt) (hv : (is.all fun i => decide (i ∈ vs)) = true) (hl : ∀ s, (vs.all fun v => decide (v < (G s).length)) = true) (hk : CvOk G vs)
    (hc : ∀ ys, ys.length = is.length → SmT (fun s => sets (wipeK (G s) vs) is ys) c (mc ys)) (he : ∀ ys, ys.length = is.length → SmV (fun s => sets (wipeK (G s) vs) is ys) e (me ys)) : SmV G (compF fi g c e vs) (qComp pt mi mc me) :=
  sm_comp hi tg (fun i h => by simpa using List.all_eq_true.mp hv i h) (fun s v h => by simpa using List.all_eq_true.mp (hl s) v h) hk hc he
theorem qfor {fi : Sk → R (List PV × Option Nat)} {mi : M σ (List PV)} {g : PV → Sk → Option Sk} {is : List Nat} {pt : PV → Option (List PV)} {F : Sk → O} {body : τ → List PV → M σ (Ct τ τ)} (K : τ → σ → List Kn) (t0 : τ)
    (hi : SmI G fi mi) (tg : Tg g is pt) (hz : ∀ s, Z.P s (G s)) (hw : ∀ s, Wk (G s) (K t0 s)) (hu : ∀ t s, upB (K t s) is = true)
    (hb : ∀ t ys, ys.length = is.length → Ss (fun s => sets (K t s) is ys) Z K K F (body t ys)) : Ss G Z Gb K (forF fi g F) (qFor pt mi body t0) :=
  ss_for t0 hi tg hz hw (fun t s => upB_of (hu t s)) hb
theorem qasg {fv : Sk → R PV} {m : M σ PV} {g : PV → Sk → Option Sk} {is : List Nat} {pt : PV → Option (List PV)} (h : SmV G fv m) (tg : Tg g is pt) (hz : ∀ s, Z.P s (G s)) (hu : ∀ s, upB (G s) is = true) :
    Ss G Z Gb (fun ys s => sets (G s) is ys) (asgF fv g) (qAsg pt m) := ss_asg h tg hz fun s => upB_of (hu s)

theorem u1m {A B : Type} {G : List PV → σ → List Kn} {rl : A → B → Prop} {f : Sk → R B} {k : PV → M σ A} (h : ∀ x0, Sm (G [x0]) rl f (k x0)) : ∀ ys : List PV, ys.length = 1 → Sm (G ys) rl f (un1 k mF ys) := fun ys hl => by
  match ys, hl with
  | [x0], _ => exact h x0
theorem u1s {τ' : Type} {Gn : τ' → σ → List Kn} {G : List PV → σ → List Kn} {F : Sk → O} {k : PV → M σ (Ct τ' β)} (h : ∀ x0, Ss (G [x0]) Z Gb Gn F (k x0)) : ∀ ys : List PV, Ss (G ys) Z Gb Gn F (un1 k mF ys) := fun ys => by
  match ys with
  | [x0] => exact h x0
  | [] => exact ⟨fun s S hS r s' e => by cases e⟩
  | _ :: _ :: _ => exact ⟨fun s S hS r s' e => by cases e⟩
theorem u1b {τ' : Type} {Gn : τ' → σ → List Kn} {G : List PV → σ → List Kn} {F : Sk → O} {k : PV → M σ (Ct τ' β)} (h : ∀ x0, Ss (G [x0]) Z Gb Gn F (k x0)) : ∀ ys : List PV, ys.length = 1 → Ss (G ys) Z Gb Gn F (un1 k mF ys) := fun ys _ => u1s h ys
theorem fnV1 {fr : Bool} {n : Nat} {B : Sk → O} {k : PV → M Unit (Ct Unit Unit)} (hn : 1 ≤ n) (h : ∀ x0, Ss (fun _ => [.v x0] ++ List.replicate (n - 1) .n) (ZV fr n) (fun _ _ => List.replicate n .n) (fun _ _ => List.replicate n .n) B (k x0)) : FnV fr (mkFn 1 n B) (un1 (fun x0 => qEnd fr (k x0)) mF) := fun ys r e => by
  match ys, e with
  | [x0], e => exact fnV_at (xs := [x0]) hn (h x0) r e
  | [], e => cases e
  | _ :: _ :: _, e => cases e
theorem fnB1 {fr : Bool} {n : Nat} {B : Sk → O} {k : PV → M PV (Ct Unit Unit)} (hn : 2 ≤ n) (h : ∀ x0, Ss (fun s => .i s :: ([.v x0] ++ List.replicate (n - 2) .n)) (ZB fr n) (fun _ s => .i s :: List.replicate (n - 1) .n) (fun _ s => .i s :: List.replicate (n - 1) .n) B (k x0)) : FnB fr (mkFn 2 n B) (un1 (fun x0 => qEnd fr (k x0)) mF) := fun ys b r b' e => by
  match ys, e with
  | [x0], e => exact fnB_at (xs := [x0]) hn (h x0) b r b' e
  | [], e => cases e
  | _ :: _ :: _, e => cases e
theorem u2m {A B : Type} {G : List PV → σ → List Kn} {rl : A → B → Prop} {f : Sk → R B} {k : PV → PV → M σ A} (h : ∀ x0 x1, Sm (G [x0, x1]) rl f (k x0 x1)) : ∀ ys : List PV, ys.length = 2 → Sm (G ys) rl f (un2 k mF ys) := fun ys hl => by
  match ys, hl with
  | [x0, x1], _ => exact h x0 x1
theorem u2s {τ' : Type} {Gn : τ' → σ → List Kn} {G : List PV → σ → List Kn} {F : Sk → O} {k : PV → PV → M σ (Ct τ' β)} (h : ∀ x0 x1, Ss (G [x0, x1]) Z Gb Gn F (k x0 x1)) : ∀ ys : List PV, Ss (G ys) Z Gb Gn F (un2 k mF ys) := fun ys => by
  match ys with
  | [x0, x1] => exact h x0 x1
  | [] => exact ⟨fun s S hS r s' e => by cases e⟩
  | [_] => exact ⟨fun s S hS r s' e => by cases e⟩
  | _ :: _ :: _ :: _ => exact ⟨fun s S hS r s' e => by cases e⟩
theorem u2b {τ' : Type} {Gn : τ' → σ → List Kn} {G : List PV → σ → List Kn} {F : Sk → O} {k : PV → PV → M σ (Ct τ' β)} (h : ∀ x0 x1, Ss (G [x0, x1]) Z Gb Gn F (k x0 x1)) : ∀ ys : List PV, ys.length = 2 → Ss (G ys) Z Gb Gn F (un2 k mF ys) := fun ys _ => u2s h ys
theorem fnV2 {fr : Bool} {n : Nat} {B : Sk → O} {k : PV → PV → M Unit (Ct Unit Unit)} (hn : 2 ≤ n) (h : ∀ x0 x1, Ss (fun _ => [.v x0, .v x1] ++ List.replicate (n - 2) .n) (ZV fr n) (fun _ _ => List.replicate n .n) (fun _ _ => List.replicate n .n) B (k x0 x1)) : FnV fr (mkFn 2 n B) (un2 (fun x0 x1 => qEnd fr (k x0 x1)) mF) := fun ys r e => by
  match ys, e with
  | [x0, x1], e => exact fnV_at (xs := [x0, x1]) hn (h x0 x1) r e
  | [], e => cases e
  | [_], e => cases e
  | _ :: _ :: _ :: _, e => cases e
theorem fnB2 {fr : Bool} {n : Nat} {B : Sk → O} {k : PV → PV → M PV (Ct Unit Unit)} (hn : 3 ≤ n) (h : ∀ x0 x1, Ss (fun s => .i s :: ([.v x0, .v x1] ++ List.replicate (n - 3) .n)) (ZB fr n) (fun _ s => .i s :: List.replicate (n - 1) .n) (fun _ s => .i s :: List.replicate (n - 1) .n) B (k x0 x1)) : FnB fr (mkFn 3 n B) (un2 (fun x0 x1 => qEnd fr (k x0 x1)) mF) := fun ys b r b' e => by
  match ys, e with
  | [x0, x1], e => exact fnB_at (xs := [x0, x1]) hn (h x0 x1) b r b' e
  | [], e => cases e
  | [_], e => cases e
  | _ :: _ :: _ :: _, e => cases e
theorem u3m {A B : Type} {G : List PV → σ → List Kn} {rl : A → B → Prop} {f : Sk → R B} {k : PV → PV → PV → M σ A} (h : ∀ x0 x1 x2, Sm (G [x0, x1, x2]) rl f (k x0 x1 x2)) : ∀ ys : List PV, ys.length = 3 → Sm (G ys) rl f (un3 k mF ys) := fun ys hl => by
  match ys, hl with
  | [x0, x1, x2], _ => exact h x0 x1 x2
theorem u3s {τ' : Type} {Gn : τ' → σ → List Kn} {G : List PV → σ → List Kn} {F : Sk → O} {k : PV → PV → PV → M σ (Ct τ' β)} (h : ∀ x0 x1 x2, Ss (G [x0, x1, x2]) Z Gb Gn F (k x0 x1 x2)) : ∀ ys : List PV, Ss (G ys) Z Gb Gn F (un3 k mF ys) := fun ys => by
  match ys with
  | [x0, x1, x2] => exact h x0 x1 x2
  | [] => exact ⟨fun s S hS r s' e => by cases e⟩
  | [_] => exact ⟨fun s S hS r s' e => by cases e⟩
  | [_, _] => exact ⟨fun s S hS r s' e => by cases e⟩
  | _ :: _ :: _ :: _ :: _ => exact ⟨fun s S hS r s' e => by cases e⟩
theorem u3b {τ' : Type} {Gn : τ' → σ → List Kn} {G : List PV → σ → List Kn} {F : Sk → O} {k : PV → PV → PV → M σ (Ct τ' β)} (h : ∀ x0 x1 x2, Ss (G [x0, x1, x2]) Z Gb Gn F (k x0 x1 x2)) : ∀ ys : List PV, ys.length = 3 → Ss (G ys) Z Gb Gn F (un3 k mF ys) := fun ys _ => u3s h ys
theorem fnV3 {fr : Bool} {n : Nat} {B : Sk → O} {k : PV → PV → PV → M Unit (Ct Unit Unit)} (hn : 3 ≤ n) (h : ∀ x0 x1 x2, Ss (fun _ => [.v x0, .v x1, .v x2] ++ List.replicate (n - 3) .n) (ZV fr n) (fun _ _ => List.replicate n .n) (fun _ _ => List.replicate n .n) B (k x0 x1 x2)) : FnV fr (mkFn 3 n B) (un3 (fun x0 x1 x2 => qEnd fr (k x0 x1 x2)) mF) := fun ys r e => by
  match ys, e with
  | [x0, x1, x2], e => exact fnV_at (xs := [x0, x1, x2]) hn (h x0 x1 x2) r e
  | [], e => cases e
  | [_], e => cases e
  | [_, _], e => cases e
  | _ :: _ :: _ :: _ :: _, e => cases e
theorem fnB3 {fr : Bool} {n : Nat} {B : Sk → O} {k : PV → PV → PV → M PV (Ct Unit Unit)} (hn : 4 ≤ n) (h : ∀ x0 x1 x2, Ss (fun s => .i s :: ([.v x0, .v x1, .v x2] ++ List.replicate (n - 4) .n)) (ZB fr n) (fun _ s => .i s :: List.replicate (n - 1) .n) (fun _ s => .i s :: List.replicate (n - 1) .n) B (k x0 x1 x2)) : FnB fr (mkFn 4 n B) (un3 (fun x0 x1 x2 => qEnd fr (k x0 x1 x2)) mF) := fun ys b r b' e => by
  match ys, e with
  | [x0, x1, x2], e => exact fnB_at (xs := [x0, x1, x2]) hn (h x0 x1 x2) b r b' e
  | [], e => cases e
  | [_], e => cases e
  | [_, _], e => cases e
  | _ :: _ :: _ :: _ :: _, e => cases e
theorem u4m {A B : Type} {G : List PV → σ → List Kn} {rl : A → B → Prop} {f : Sk → R B} {k : PV → PV → PV → PV → M σ A} (h : ∀ x0 x1 x2 x3, Sm (G [x0, x1, x2, x3]) rl f (k x0 x1 x2 x3)) : ∀ ys : List PV, ys.length = 4 → Sm (G ys) rl f (un4 k mF ys) := fun ys hl => by
  match ys, hl with
  | [x0, x1, x2, x3], _ => exact h x0 x1 x2 x3
theorem u4s {τ' : Type} {Gn : τ' → σ → List Kn} {G : List PV → σ → List Kn} {F : Sk → O} {k : PV → PV → PV → PV → M σ (Ct τ' β)} (h : ∀ x0 x1 x2 x3, Ss (G [x0, x1, x2, x3]) Z Gb Gn F (k x0 x1 x2 x3)) : ∀ ys : List PV, Ss (G ys) Z Gb Gn F (un4 k mF ys) := fun ys => by
  match ys with
  | [x0, x1, x2, x3] => exact h x0 x1 x2 x3
  | [] => exact ⟨fun s S hS r s' e => by cases e⟩
  | [_] => exact ⟨fun s S hS r s' e => by cases e⟩
  | [_, _] => exact ⟨fun s S hS r s' e => by cases e⟩
  | [_, _, _] => exact ⟨fun s S hS r s' e => by cases e⟩
  | _ :: _ :: _ :: _ :: _ :: _ => exact ⟨fun s S hS r s' e => by cases e⟩
theorem u4b {τ' : Type} {Gn : τ' → σ → List Kn} {G : List PV → σ → List Kn} {F : Sk → O} {k : PV → PV → PV → PV → M σ (Ct τ' β)} (h : ∀ x0 x1 x2 x3, Ss (G [x0, x1, x2, x3]) Z Gb Gn F (k x0 x1 x2 x3)) : ∀ ys : List PV, ys.length = 4 → Ss (G ys) Z Gb Gn F (un4 k mF ys) := fun ys _ => u4s h ys
theorem fnV4 {fr : Bool} {n : Nat} {B : Sk → O} {k : PV → PV → PV → PV → M Unit (Ct Unit Unit)} (hn : 4 ≤ n) (h : ∀ x0 x1 x2 x3, Ss (fun _ => [.v x0, .v x1, .v x2, .v x3] ++ List.replicate (n - 4) .n) (ZV fr n) (fun _ _ => List.replicate n .n) (fun _ _ => List.replicate n .n) B (k x0 x1 x2 x3)) : FnV fr (mkFn 4 n B) (un4 (fun x0 x1 x2 x3 => qEnd fr (k x0 x1 x2 x3)) mF) := fun ys r e => by
  match ys, e with
  | [x0, x1, x2, x3], e => exact fnV_at (xs := [x0, x1, x2, x3]) hn (h x0 x1 x2 x3) r e
  | [], e => cases e
  | [_], e => cases e
  | [_, _], e => cases e
  | [_, _, _], e => cases e
  | _ :: _ :: _ :: _ :: _ :: _, e => cases e
theorem fnB4 {fr : Bool} {n : Nat} {B : Sk → O} {k : PV → PV → PV → PV → M PV (Ct Unit Unit)} (hn : 5 ≤ n) (h : ∀ x0 x1 x2 x3, Ss (fun s => .i s :: ([.v x0, .v x1, .v x2, .v x3] ++ List.replicate (n - 5) .n)) (ZB fr n) (fun _ s => .i s :: List.replicate (n - 1) .n) (fun _ s => .i s :: List.replicate (n - 1) .n) B (k x0 x1 x2 x3)) : FnB fr (mkFn 5 n B) (un4 (fun x0 x1 x2 x3 => qEnd fr (k x0 x1 x2 x3)) mF) := fun ys b r b' e => by
  match ys, e with
  | [x0, x1, x2, x3], e => exact fnB_at (xs := [x0, x1, x2, x3]) hn (h x0 x1 x2 x3) b r b' e
  | [], e => cases e
  | [_], e => cases e
  | [_, _], e => cases e
  | [_, _, _], e => cases e
  | _ :: _ :: _ :: _ :: _ :: _, e => cases e
theorem u5m {A B : Type} {G : List PV → σ → List Kn} {rl : A → B → Prop} {f : Sk → R B} {k : PV → PV → PV → PV → PV → M σ A} (h : ∀ x0 x1 x2 x3 x4, Sm (G [x0, x1, x2, x3, x4]) rl f (k x0 x1 x2 x3 x4)) : ∀ ys : List PV, ys.length = 5 → Sm (G ys) rl f (un5 k mF ys) := fun ys hl => by
  match ys, hl with
  | [x0, x1, x2, x3, x4], _ => exact h x0 x1 x2 x3 x4
theorem u5s {τ' : Type} {Gn : τ' → σ → List Kn} {G : List PV → σ → List Kn} {F : Sk → O} {k : PV → PV → PV → PV → PV → M σ (Ct τ' β)} (h : ∀ x0 x1 x2 x3 x4, Ss (G [x0, x1, x2, x3, x4]) Z Gb Gn F (k x0 x1 x2 x3 x4)) : ∀ ys : List PV, Ss (G ys) Z Gb Gn F (un5 k mF ys) := fun ys => by
  match ys with
  | [x0, x1, x2, x3, x4] => exact h x0 x1 x2 x3 x4
  | [] => exact ⟨fun s S hS r s' e => by cases e⟩
  | [_] => exact ⟨fun s S hS r s' e => by cases e⟩
  | [_, _] => exact ⟨fun s S hS r s' e => by cases e⟩
  | [_, _, _] => exact ⟨fun s S hS r s' e => by cases e⟩
  | [_, _, _, _] => exact ⟨fun s S hS r s' e => by cases e⟩
  | _ :: _ :: _ :: _ :: _ :: _ :: _ => exact ⟨fun s S hS r s' e => by cases e⟩
theorem u5b {τ' : Type} {Gn : τ' → σ → List Kn} {G : List PV → σ → List Kn} {F : Sk → O} {k : PV → PV → PV → PV → PV → M σ (Ct τ' β)} (h : ∀ x0 x1 x2 x3 x4, Ss (G [x0, x1, x2, x3, x4]) Z Gb Gn F (k x0 x1 x2 x3 x4)) : ∀ ys : List PV, ys.length = 5 → Ss (G ys) Z Gb Gn F (un5 k mF ys) := fun ys _ => u5s h ys
theorem fnV5 {fr : Bool} {n : Nat} {B : Sk → O} {k : PV → PV → PV → PV → PV → M Unit (Ct Unit Unit)} (hn : 5 ≤ n) (h : ∀ x0 x1 x2 x3 x4, Ss (fun _ => [.v x0, .v x1, .v x2, .v x3, .v x4] ++ List.replicate (n - 5) .n) (ZV fr n) (fun _ _ => List.replicate n .n) (fun _ _ => List.replicate n .n) B (k x0 x1 x2 x3 x4)) : FnV fr (mkFn 5 n B) (un5 (fun x0 x1 x2 x3 x4 => qEnd fr (k x0 x1 x2 x3 x4)) mF) := fun ys r e => by
  match ys, e with
  | [x0, x1, x2, x3, x4], e => exact fnV_at (xs := [x0, x1, x2, x3, x4]) hn (h x0 x1 x2 x3 x4) r e
  | [], e => cases e
  | [_], e => cases e
  | [_, _], e => cases e
  | [_, _, _], e => cases e
  | [_, _, _, _], e => cases e
  | _ :: _ :: _ :: _ :: _ :: _ :: _, e => cases e
theorem fnB5 {fr : Bool} {n : Nat} {B : Sk → O} {k : PV → PV → PV → PV → PV → M PV (Ct Unit Unit)} (hn : 6 ≤ n) (h : ∀ x0 x1 x2 x3 x4, Ss (fun s => .i s :: ([.v x0, .v x1, .v x2, .v x3, .v x4] ++ List.replicate (n - 6) .n)) (ZB fr n) (fun _ s => .i s :: List.replicate (n - 1) .n) (fun _ s => .i s :: List.replicate (n - 1) .n) B (k x0 x1 x2 x3 x4)) : FnB fr (mkFn 6 n B) (un5 (fun x0 x1 x2 x3 x4 => qEnd fr (k x0 x1 x2 x3 x4)) mF) := fun ys b r b' e => by
  match ys, e with
  | [x0, x1, x2, x3, x4], e => exact fnB_at (xs := [x0, x1, x2, x3, x4]) hn (h x0 x1 x2 x3 x4) b r b' e
  | [], e => cases e
  | [_], e => cases e
  | [_, _], e => cases e
  | [_, _, _], e => cases e
  | [_, _, _, _], e => cases e
  | _ :: _ :: _ :: _ :: _ :: _ :: _, e => cases e
theorem u6m {A B : Type} {G : List PV → σ → List Kn} {rl : A → B → Prop} {f : Sk → R B} {k : PV → PV → PV → PV → PV → PV → M σ A} (h : ∀ x0 x1 x2 x3 x4 x5, Sm (G [x0, x1, x2, x3, x4, x5]) rl f (k x0 x1 x2 x3 x4 x5)) : ∀ ys : List PV, ys.length = 6 → Sm (G ys) rl f (un6 k mF ys) := fun ys hl => by
  match ys, hl with
  | [x0, x1, x2, x3, x4, x5], _ => exact h x0 x1 x2 x3 x4 x5
theorem u6s {τ' : Type} {Gn : τ' → σ → List Kn} {G : List PV → σ → List Kn} {F : Sk → O} {k : PV → PV → PV → PV → PV → PV → M σ (Ct τ' β)} (h : ∀ x0 x1 x2 x3 x4 x5, Ss (G [x0, x1, x2, x3, x4, x5]) Z Gb Gn F (k x0 x1 x2 x3 x4 x5)) : ∀ ys : List PV, Ss (G ys) Z Gb Gn F (un6 k mF ys) := fun ys => by
  match ys with
  | [x0, x1, x2, x3, x4, x5] => exact h x0 x1 x2 x3 x4 x5
  | [] => exact ⟨fun s S hS r s' e => by cases e⟩
  | [_] => exact ⟨fun s S hS r s' e => by cases e⟩
  | [_, _] => exact ⟨fun s S hS r s' e => by cases e⟩
  | [_, _, _] => exact ⟨fun s S hS r s' e => by cases e⟩
  | [_, _, _, _] => exact ⟨fun s S hS r s' e => by cases e⟩
  | [_, _, _, _, _] => exact ⟨fun s S hS r s' e => by cases e⟩
  | _ :: _ :: _ :: _ :: _ :: _ :: _ :: _ => exact ⟨fun s S hS r s' e => by cases e⟩
theorem u6b {τ' : Type} {Gn : τ' → σ → List Kn} {G : List PV → σ → List Kn} {F : Sk → O} {k : PV → PV → PV → PV → PV → PV → M σ (Ct τ' β)} (h : ∀ x0 x1 x2 x3 x4 x5, Ss (G [x0, x1, x2, x3, x4, x5]) Z Gb Gn F (k x0 x1 x2 x3 x4 x5)) : ∀ ys : List PV, ys.length = 6 → Ss (G ys) Z Gb Gn F (un6 k mF ys) := fun ys _ => u6s h ys
theorem fnV6 {fr : Bool} {n : Nat} {B : Sk → O} {k : PV → PV → PV → PV → PV → PV → M Unit (Ct Unit Unit)} (hn : 6 ≤ n) (h : ∀ x0 x1 x2 x3 x4 x5, Ss (fun _ => [.v x0, .v x1, .v x2, .v x3, .v x4, .v x5] ++ List.replicate (n - 6) .n) (ZV fr n) (fun _ _ => List.replicate n .n) (fun _ _ => List.replicate n .n) B (k x0 x1 x2 x3 x4 x5)) : FnV fr (mkFn 6 n B) (un6 (fun x0 x1 x2 x3 x4 x5 => qEnd fr (k x0 x1 x2 x3 x4 x5)) mF) := fun ys r e => by
  match ys, e with
  | [x0, x1, x2, x3, x4, x5], e => exact fnV_at (xs := [x0, x1, x2, x3, x4, x5]) hn (h x0 x1 x2 x3 x4 x5) r e
  | [], e => cases e
  | [_], e => cases e
  | [_, _], e => cases e
  | [_, _, _], e => cases e
  | [_, _, _, _], e => cases e
  | [_, _, _, _, _], e => cases e
  | _ :: _ :: _ :: _ :: _ :: _ :: _ :: _, e => cases e
theorem fnB6 {fr : Bool} {n : Nat} {B : Sk → O} {k : PV → PV → PV → PV → PV → PV → M PV (Ct Unit Unit)} (hn : 7 ≤ n) (h : ∀ x0 x1 x2 x3 x4 x5, Ss (fun s => .i s :: ([.v x0, .v x1, .v x2, .v x3, .v x4, .v x5] ++ List.replicate (n - 7) .n)) (ZB fr n) (fun _ s => .i s :: List.replicate (n - 1) .n) (fun _ s => .i s :: List.replicate (n - 1) .n) B (k x0 x1 x2 x3 x4 x5)) : FnB fr (mkFn 7 n B) (un6 (fun x0 x1 x2 x3 x4 x5 => qEnd fr (k x0 x1 x2 x3 x4 x5)) mF) := fun ys b r b' e => by
  match ys, e with
  | [x0, x1, x2, x3, x4, x5], e => exact fnB_at (xs := [x0, x1, x2, x3, x4, x5]) hn (h x0 x1 x2 x3 x4 x5) b r b' e
  | [], e => cases e
  | [_], e => cases e
  | [_, _], e => cases e
  | [_, _, _], e => cases e
  | [_, _, _, _], e => cases e
  | [_, _, _, _, _], e => cases e
  | _ :: _ :: _ :: _ :: _ :: _ :: _ :: _, e => cases e
theorem u7m {A B : Type} {G : List PV → σ → List Kn} {rl : A → B → Prop} {f : Sk → R B} {k : PV → PV → PV → PV → PV → PV → PV → M σ A} (h : ∀ x0 x1 x2 x3 x4 x5 x6, Sm (G [x0, x1, x2, x3, x4, x5, x6]) rl f (k x0 x1 x2 x3 x4 x5 x6)) : ∀ ys : List PV, ys.length = 7 → Sm (G ys) rl f (un7 k mF ys) := fun ys hl => by
  match ys, hl with
  | [x0, x1, x2, x3, x4, x5, x6], _ => exact h x0 x1 x2 x3 x4 x5 x6
theorem u7s {τ' : Type} {Gn : τ' → σ → List Kn} {G : List PV → σ → List Kn} {F : Sk → O} {k : PV → PV → PV → PV → PV → PV → PV → M σ (Ct τ' β)} (h : ∀ x0 x1 x2 x3 x4 x5 x6, Ss (G [x0, x1, x2, x3, x4, x5, x6]) Z Gb Gn F (k x0 x1 x2 x3 x4 x5 x6)) : ∀ ys : List PV, Ss (G ys) Z Gb Gn F (un7 k mF ys) := fun ys => by
  match ys with
  | [x0, x1, x2, x3, x4, x5, x6] => exact h x0 x1 x2 x3 x4 x5 x6
  | [] => exact ⟨fun s S hS r s' e => by cases e⟩
  | [_] => exact ⟨fun s S hS r s' e => by cases e⟩
  | [_, _] => exact ⟨fun s S hS r s' e => by cases e⟩
  | [_, _, _] => exact ⟨fun s S hS r s' e => by cases e⟩
  | [_, _, _, _] => exact ⟨fun s S hS r s' e => by cases e⟩
  | [_, _, _, _, _] => exact ⟨fun s S hS r s' e => by cases e⟩
  | [_, _, _, _, _, _] => exact ⟨fun s S hS r s' e => by cases e⟩
  | _ :: _ :: _ :: _ :: _ :: _ :: _ :: _ :: _ => exact ⟨fun s S hS r s' e => by cases e⟩
theorem u7b {τ' : Type} {Gn : τ' → σ → List Kn} {G : List PV → σ → List Kn} {F : Sk → O} {k : PV → PV → PV → PV → PV → PV → PV → M σ (Ct τ' β)} (h : ∀ x0 x1 x2 x3 x4 x5 x6, Ss (G [x0, x1, x2, x3, x4, x5, x6]) Z Gb Gn F (k x0 x1 x2 x3 x4 x5 x6)) : ∀ ys : List PV, ys.length = 7 → Ss (G ys) Z Gb Gn F (un7 k mF ys) := fun ys _ => u7s h ys
theorem fnV7 {fr : Bool} {n : Nat} {B : Sk → O} {k : PV → PV → PV → PV → PV → PV → PV → M Unit (Ct Unit Unit)} (hn : 7 ≤ n) (h : ∀ x0 x1 x2 x3 x4 x5 x6, Ss (fun _ => [.v x0, .v x1, .v x2, .v x3, .v x4, .v x5, .v x6] ++ List.replicate (n - 7) .n) (ZV fr n) (fun _ _ => List.replicate n .n) (fun _ _ => List.replicate n .n) B (k x0 x1 x2 x3 x4 x5 x6)) : FnV fr (mkFn 7 n B) (un7 (fun x0 x1 x2 x3 x4 x5 x6 => qEnd fr (k x0 x1 x2 x3 x4 x5 x6)) mF) := fun ys r e => by
  match ys, e with
  | [x0, x1, x2, x3, x4, x5, x6], e => exact fnV_at (xs := [x0, x1, x2, x3, x4, x5, x6]) hn (h x0 x1 x2 x3 x4 x5 x6) r e
  | [], e => cases e
  | [_], e => cases e
  | [_, _], e => cases e
  | [_, _, _], e => cases e
  | [_, _, _, _], e => cases e
  | [_, _, _, _, _], e => cases e
  | [_, _, _, _, _, _], e => cases e
  | _ :: _ :: _ :: _ :: _ :: _ :: _ :: _ :: _, e => cases e
theorem fnB7 {fr : Bool} {n : Nat} {B : Sk → O} {k : PV → PV → PV → PV → PV → PV → PV → M PV (Ct Unit Unit)} (hn : 8 ≤ n) (h : ∀ x0 x1 x2 x3 x4 x5 x6, Ss (fun s => .i s :: ([.v x0, .v x1, .v x2, .v x3, .v x4, .v x5, .v x6] ++ List.replicate (n - 8) .n)) (ZB fr n) (fun _ s => .i s :: List.replicate (n - 1) .n) (fun _ s => .i s :: List.replicate (n - 1) .n) B (k x0 x1 x2 x3 x4 x5 x6)) : FnB fr (mkFn 8 n B) (un7 (fun x0 x1 x2 x3 x4 x5 x6 => qEnd fr (k x0 x1 x2 x3 x4 x5 x6)) mF) := fun ys b r b' e => by
  match ys, e with
  | [x0, x1, x2, x3, x4, x5, x6], e => exact fnB_at (xs := [x0, x1, x2, x3, x4, x5, x6]) hn (h x0 x1 x2 x3 x4 x5 x6) b r b' e
  | [], e => cases e
  | [_], e => cases e
  | [_, _], e => cases e
  | [_, _, _], e => cases e
  | [_, _, _, _], e => cases e
  | [_, _, _, _, _], e => cases e
  | [_, _, _, _, _, _], e => cases e
  | _ :: _ :: _ :: _ :: _ :: _ :: _ :: _ :: _, e => cases e
theorem u8m {A B : Type} {G : List PV → σ → List Kn} {rl : A → B → Prop} {f : Sk → R B} {k : PV → PV → PV → PV → PV → PV → PV → PV → M σ A} (h : ∀ x0 x1 x2 x3 x4 x5 x6 x7, Sm (G [x0, x1, x2, x3, x4, x5, x6, x7]) rl f (k x0 x1 x2 x3 x4 x5 x6 x7)) : ∀ ys : List PV, ys.length = 8 → Sm (G ys) rl f (un8 k mF ys) := fun ys hl => by
  match ys, hl with
  | [x0, x1, x2, x3, x4, x5, x6, x7], _ => exact h x0 x1 x2 x3 x4 x5 x6 x7
theorem u8s {τ' : Type} {Gn : τ' → σ → List Kn} {G : List PV → σ → List Kn} {F : Sk → O} {k : PV → PV → PV → PV → PV → PV → PV → PV → M σ (Ct τ' β)} (h : ∀ x0 x1 x2 x3 x4 x5 x6 x7, Ss (G [x0, x1, x2, x3, x4, x5, x6, x7]) Z Gb Gn F (k x0 x1 x2 x3 x4 x5 x6 x7)) : ∀ ys : List PV, Ss (G ys) Z Gb Gn F (un8 k mF ys) := fun ys => by
  match ys with
  | [x0, x1, x2, x3, x4, x5, x6, x7] => exact h x0 x1 x2 x3 x4 x5 x6 x7
  | [] => exact ⟨fun s S hS r s' e => by cases e⟩
  | [_] => exact ⟨fun s S hS r s' e => by cases e⟩
  | [_, _] => exact ⟨fun s S hS r s' e => by cases e⟩
  | [_, _, _] => exact ⟨fun s S hS r s' e => by cases e⟩
  | [_, _, _, _] => exact ⟨fun s S hS r s' e => by cases e⟩
  | [_, _, _, _, _] => exact ⟨fun s S hS r s' e => by cases e⟩
  | [_, _, _, _, _, _] => exact ⟨fun s S hS r s' e => by cases e⟩
  | [_, _, _, _, _, _, _] => exact ⟨fun s S hS r s' e => by cases e⟩
  | _ :: _ :: _ :: _ :: _ :: _ :: _ :: _ :: _ :: _ => exact ⟨fun s S hS r s' e => by cases e⟩
theorem u8b {τ' : Type} {Gn : τ' → σ → List Kn} {G : List PV → σ → List Kn} {F : Sk → O} {k : PV → PV → PV → PV → PV → PV → PV → PV → M σ (Ct τ' β)} (h : ∀ x0 x1 x2 x3 x4 x5 x6 x7, Ss (G [x0, x1, x2, x3, x4, x5, x6, x7]) Z Gb Gn F (k x0 x1 x2 x3 x4 x5 x6 x7)) : ∀ ys : List PV, ys.length = 8 → Ss (G ys) Z Gb Gn F (un8 k mF ys) := fun ys _ => u8s h ys
theorem fnV8 {fr : Bool} {n : Nat} {B : Sk → O} {k : PV → PV → PV → PV → PV → PV → PV → PV → M Unit (Ct Unit Unit)} (hn : 8 ≤ n) (h : ∀ x0 x1 x2 x3 x4 x5 x6 x7, Ss (fun _ => [.v x0, .v x1, .v x2, .v x3, .v x4, .v x5, .v x6, .v x7] ++ List.replicate (n - 8) .n) (ZV fr n) (fun _ _ => List.replicate n .n) (fun _ _ => List.replicate n .n) B (k x0 x1 x2 x3 x4 x5 x6 x7)) : FnV fr (mkFn 8 n B) (un8 (fun x0 x1 x2 x3 x4 x5 x6 x7 => qEnd fr (k x0 x1 x2 x3 x4 x5 x6 x7)) mF) := fun ys r e => by
  match ys, e with
  | [x0, x1, x2, x3, x4, x5, x6, x7], e => exact fnV_at (xs := [x0, x1, x2, x3, x4, x5, x6, x7]) hn (h x0 x1 x2 x3 x4 x5 x6 x7) r e
  | [], e => cases e
  | [_], e => cases e
  | [_, _], e => cases e
  | [_, _, _], e => cases e
  | [_, _, _, _], e => cases e
  | [_, _, _, _, _], e => cases e
  | [_, _, _, _, _, _], e => cases e
  | [_, _, _, _, _, _, _], e => cases e
  | _ :: _ :: _ :: _ :: _ :: _ :: _ :: _ :: _ :: _, e => cases e
theorem fnB8 {fr : Bool} {n : Nat} {B : Sk → O} {k : PV → PV → PV → PV → PV → PV → PV → PV → M PV (Ct Unit Unit)} (hn : 9 ≤ n) (h : ∀ x0 x1 x2 x3 x4 x5 x6 x7, Ss (fun s => .i s :: ([.v x0, .v x1, .v x2, .v x3, .v x4, .v x5, .v x6, .v x7] ++ List.replicate (n - 9) .n)) (ZB fr n) (fun _ s => .i s :: List.replicate (n - 1) .n) (fun _ s => .i s :: List.replicate (n - 1) .n) B (k x0 x1 x2 x3 x4 x5 x6 x7)) : FnB fr (mkFn 9 n B) (un8 (fun x0 x1 x2 x3 x4 x5 x6 x7 => qEnd fr (k x0 x1 x2 x3 x4 x5 x6 x7)) mF) := fun ys b r b' e => by
  match ys, e with
  | [x0, x1, x2, x3, x4, x5, x6, x7], e => exact fnB_at (xs := [x0, x1, x2, x3, x4, x5, x6, x7]) hn (h x0 x1 x2 x3 x4 x5 x6 x7) b r b' e
  | [], e => cases e
  | [_], e => cases e
  | [_, _], e => cases e
  | [_, _, _], e => cases e
  | [_, _, _, _], e => cases e
  | [_, _, _, _, _], e => cases e
  | [_, _, _, _, _, _], e => cases e
  | [_, _, _, _, _, _, _], e => cases e
  | _ :: _ :: _ :: _ :: _ :: _ :: _ :: _ :: _ :: _, e => cases e
theorem fnB0 {fr : Bool} {n : Nat} {B : Sk → O} {k : M PV (Ct Unit Unit)} (hn : 1 ≤ n) (h : Ss (fun s => .i s :: (([] : List Kn) ++ List.replicate (n - 1) .n)) (ZB fr n) (fun _ s => .i s :: List.replicate (n - 1) .n) (fun _ s => .i s :: List.replicate (n - 1) .n) B k) : FnB fr (mkFn 1 n B) (un0 (qEnd fr k) mF) := fun ys b r b' e => by
  match ys, e with
  | [], e => exact fnB_at (xs := []) hn h b r b' e
  | _ :: _, e => cases e
end
/-- a def whose own local is the state -/
def ZL (fr : Bool) (N : Nat) : Zt PV := ⟨fr, fun _ ks => ks.length = N⟩
def mR {α : Type} (m : M PV α) : M Unit α := fun _ => match m .non with
  | none => none
  | some (r, _) => some (r, ())
theorem fnL_at {fr : Bool} {B : Sk → O} {xs : List PV} {n : Nat} {m : M PV (Ct Unit Unit)} (hn : xs.length ≤ n) (h : Ss (fun _ => xs.map Kn.v ++ List.replicate (n - xs.length) .n) (ZL fr n) (fun _ _ => List.replicate n .n) (fun _ _ => List.replicate n .n) B m) :
    ∀ r, mR (qEnd fr m) () = some (r, ()) → match r with
    | .ok x => ∃ rv outs, mkFn xs.length n B (xs.map Sl.val) = .ok rv outs ∧ xs.length ≤ outs.length ∧ YR fr x rv
    | .exc e => ∃ outs, mkFn xs.length n B (xs.map Sl.val) = .exc e outs ∧ xs.length ≤ outs.length := by
  intro r e
  refine fnV_at (fr := fr) (m := mR m) hn ⟨fun s S hS r s' q => ?_⟩ r ?_
  · unfold mR at q
    cases hm : m .non with
    | none => rw [hm] at q; cases q
    | some p =>
      obtain ⟨r1, s1⟩ := p
      rw [hm] at q
      cases q
      have := h.go .non S hS r s1 hm
      cases r with
      | exc e => exact this
      | ok c => cases c <;> exact this
  · rw [← e]
    unfold mR qEnd mB
    cases m .non with
    | none => rfl
    | some p =>
      obtain ⟨r1, s1⟩ := p
      cases r1 with
      | exc e => rfl
      | ok c =>
        cases c with
        | nx t => cases fr <;> rfl
        | rt x => rfl
        | bk t => rfl
        | ct t => rfl
theorem fnL1 {fr : Bool} {n : Nat} {B : Sk → O} {k : PV → M PV (Ct Unit Unit)} (hn : 1 ≤ n) (h : ∀ x0, Ss (fun _ => [.v x0] ++ List.replicate (n - 1) .n) (ZL fr n) (fun _ _ => List.replicate n .n) (fun _ _ => List.replicate n .n) B (k x0)) : FnV fr (mkFn 1 n B) (un1 (fun x0 => mR (qEnd fr (k x0))) mF) := fun ys r e => by
  match ys, e with
  | [x0], e => exact fnL_at (xs := [x0]) hn (h x0) r e
  | [], e => cases e
  | _ :: _ :: _, e => cases e
theorem fnL2 {fr : Bool} {n : Nat} {B : Sk → O} {k : PV → PV → M PV (Ct Unit Unit)} (hn : 2 ≤ n) (h : ∀ x0 x1, Ss (fun _ => [.v x0, .v x1] ++ List.replicate (n - 2) .n) (ZL fr n) (fun _ _ => List.replicate n .n) (fun _ _ => List.replicate n .n) B (k x0 x1)) : FnV fr (mkFn 2 n B) (un2 (fun x0 x1 => mR (qEnd fr (k x0 x1))) mF) := fun ys r e => by
  match ys, e with
  | [x0, x1], e => exact fnL_at (xs := [x0, x1]) hn (h x0 x1) r e
  | [], e => cases e
  | [_], e => cases e
  | _ :: _ :: _ :: _, e => cases e
theorem fnL3 {fr : Bool} {n : Nat} {B : Sk → O} {k : PV → PV → PV → M PV (Ct Unit Unit)} (hn : 3 ≤ n) (h : ∀ x0 x1 x2, Ss (fun _ => [.v x0, .v x1, .v x2] ++ List.replicate (n - 3) .n) (ZL fr n) (fun _ _ => List.replicate n .n) (fun _ _ => List.replicate n .n) B (k x0 x1 x2)) : FnV fr (mkFn 3 n B) (un3 (fun x0 x1 x2 => mR (qEnd fr (k x0 x1 x2))) mF) := fun ys r e => by
  match ys, e with
  | [x0, x1, x2], e => exact fnL_at (xs := [x0, x1, x2]) hn (h x0 x1 x2) r e
  | [], e => cases e
  | [_], e => cases e
  | [_, _], e => cases e
  | _ :: _ :: _ :: _ :: _, e => cases e
theorem fnL4 {fr : Bool} {n : Nat} {B : Sk → O} {k : PV → PV → PV → PV → M PV (Ct Unit Unit)} (hn : 4 ≤ n) (h : ∀ x0 x1 x2 x3, Ss (fun _ => [.v x0, .v x1, .v x2, .v x3] ++ List.replicate (n - 4) .n) (ZL fr n) (fun _ _ => List.replicate n .n) (fun _ _ => List.replicate n .n) B (k x0 x1 x2 x3)) : FnV fr (mkFn 4 n B) (un4 (fun x0 x1 x2 x3 => mR (qEnd fr (k x0 x1 x2 x3))) mF) := fun ys r e => by
  match ys, e with
  | [x0, x1, x2, x3], e => exact fnL_at (xs := [x0, x1, x2, x3]) hn (h x0 x1 x2 x3) r e
  | [], e => cases e
  | [_], e => cases e
  | [_, _], e => cases e
  | [_, _, _], e => cases e
  | _ :: _ :: _ :: _ :: _ :: _, e => cases e
end VL

set_option Elab.async false
set_option linter.all false
set_option autoImplicit false
set_option maxRecDepth 100000
set_option maxHeartbeats 4000000
/-! Q5: two at once, of whatever kind; short names of plain readings. -/
namespace VL
open PySem L2
section
variable {X : Cx} {W : WX} {fA fB : Sk → R RV} {i j : Nat} {tg e : Expr} {pos : Pos}
def parXF (i j : Nat) (fA fB : Sk → R RV) : Sk → O := fun S => (fA S).toO fun x S1 => (fB S1).toO fun y S2 => if unpinned S2 i = true ∧ unpinned S2 j = true then .nx ((S2.set i x.sl).set j y.sl) else .stuck
theorem vs_parX (h : PS X (.Assign [tg] e pos) (tPar i j (tCons (LiftX X.K X.mg W fA) (tCons (LiftX X.K X.mg W fB) tNil)))) : VS X W (.Assign [tg] e pos) (parXF i j fA fB) := by
  refine ⟨PS.imp h fun D σ H ⟨S, R0, q⟩ => ?_⟩
  refine ⟨S, R0, ?_⟩
  unfold parXF at q
  cases hf : fA S with
  | stuck => rw [hf] at q; exact q
  | exc y S1 => rw [hf] at q; exact fun c d H1 er R1 F1 => q c d σ H1 er R1 F1
  | ok x S1 =>
    rw [hf, R.toO_ok] at q
    cases x with
    | v x =>
      intro v H1 rv R1 F1
      refine ⟨S1, R1, ?_⟩
      cases hg : fB S1 with
      | stuck => rw [hg] at q; exact q
      | exc y S2 => rw [hg] at q; exact fun c d H2 er R2 F2 => q c d σ H2 er R2 (F1.trans F2)
      | ok y S2 =>
        rw [hg, R.toO_ok] at q
        cases y with
        | v y =>
          intro v2 H2 rv2 R2 F2
          split at q
          · exact ⟨_, _, rfl, q _ H2 ((R2.setVal (rv.ext (R1.ext F2))).setVal rv2) (((F1.trans F2).trans .setVal).trans .setVal)⟩
          · exact (show False from q).elim
        | l y =>
          intro p' u' H2 k1 k2 k3 k4 R2 F2
          split at q
          · have Ra := R2.setVal (i := i) (rv.ext (R1.ext F2))
            have hn : ¬ Owns (S2.set i (.val x)) (σ.set i (some v)) p' := fun ⟨k, s, g1, g2, g3⟩ => by
              rcases get_set g1 with ⟨rfl, rfl⟩ | ⟨ne, g1⟩
              · cases g2
              · rw [List.getElem?_set_ne ne] at g3
                exact k3 ⟨k, s, g1, g2, g3⟩
            have Rb := Ra.setOwn (i := j) k1 k2 hn
            have Fb := ((F1.trans F2).trans (Frm.setVal (i := i) (x := x) (v := v))).setOwn (i := j) (x := y) (p := p') fun o ho => Classical.byContradiction fun hno => by
              have w := F1.keep p' o ho hno
              exact w.2 (k4 o w.1)
            exact ⟨_, _, rfl, q _ H2 Rb Fb⟩
          · exact (show False from q).elim
    | l x =>
      intro p u H1 h1 h2 h3 h4 R1 F1
      refine ⟨S1, R1, ?_⟩
      cases hg : fB S1 with
      | stuck => rw [hg] at q; exact q
      | exc y S2 => rw [hg] at q; exact fun c d H2 er R2 F2 => q c d σ H2 er R2 (F1.trans F2)
      | ok y S2 =>
        rw [hg, R.toO_ok] at q
        cases y with
        | v y =>
          intro v2 H2 rv2 R2 F2
          split at q
          · have z := F2.keep p u h1 h3
            have Ra := R2.setOwn (i := i) z.1 (h2.ext (R1.ext F2)) z.2
            have Fb := (F1.trans F2).setOwn (i := i) (x := x) h4
            exact ⟨_, _, rfl, q _ H2 (Ra.setVal rv2) (Fb.trans .setVal)⟩
          · exact (show False from q).elim
        | l y =>
          intro p' u' H2 k1 k2 k3 k4 R2 F2
          split at q
          · have z := F2.keep p u h1 h3
            have ne : p' ≠ p := fun e => by
              subst e
              exact h3 (k4 u h1)
            have Ra := R2.setOwn (i := i) z.1 (h2.ext (R1.ext F2)) z.2
            have hn : ¬ Owns (S2.set i (.own x)) (σ.set i (some (.ref p))) p' := fun ⟨k, s, g1, g2, g3⟩ => by
              rw [List.getElem?_set] at g1 g3
              by_cases e : i = k
              · rw [if_pos e] at g3
                split at g3
                · injection g3 with g3
                  injection g3 with g3
                  injection g3 with g3
                  exact ne g3.symm
                · cases g3
              · rw [if_neg e] at g1 g3
                exact k3 ⟨k, s, g1, g2, g3⟩
            have Rb := Ra.setOwn (i := j) k1 k2 hn
            have Fb := ((F1.trans F2).setOwn (i := i) (x := x) (p := p) h4).setOwn (i := j) (x := y) (p := p') fun o ho => Classical.byContradiction fun hno => by
              have w := F1.keep p' o ho hno
              exact w.2 (k4 o w.1)
            exact ⟨_, _, rfl, q _ H2 Rb Fb⟩
          · exact (show False from q).elim
theorem parX {i j : Nat} {x y : Str} {a b : Expr} {px py pt : Pos} {kt k2 : Nat} {pt2 : Pos} (hc : X.calm = true) (hN : X.N.Nodup) (hij : i ≠ j) (ha : EX X W a fA) (hb : EX X W b fB) (hi : X.N[i]? = some x := by rfl) (hj : X.N[j]? = some y := by rfl)
    (hx : X.env.scope.names.lookup x = some .local := by rfl) (hy : X.env.scope.names.lookup y = some .local := by rfl)
    (hw : swappedStores [.Tuple [.Name x px, .Name y py] kt pt] (.Tuple [a, b] k2 pt2) X.env = pure (some [x, y]) := by rfl)
    (hs : swapsWithSole [.Tuple [.Name x px, .Name y py] kt pt] (.Tuple [a, b] k2 pt2) pos.line X.env = pure false := by rfl)
    (h1 : starEach [a, b] X.env = (false, eval a X.env) :: starEach [b] X.env := by rfl) (h2 : starEach [b] X.env = (false, eval b X.env) :: starEach [] X.env := by rfl) :
    VS X W (.Assign [.Tuple [.Name x px, .Name y py] kt pt] (.Tuple [a, b] k2 pt2) pos) (parXF i j fA fB) := vs_parX (ps_par hc hN hi hj hij hx hy (pa_cons ha.pe (pa_cons hb.pe pa_nil h2) h1) hw hs)
end
section
variable {σ τ β : Type} {G : σ → List Kn} {Z : Zt σ} {Gb : β → σ → List Kn}
def knOf (o : Bool) (x : PV) : Kn := if o = true then .o x else .v x
theorem y_v {fv : Sk → R PV} {m : M σ PV} (h : SmV G fv m) : Sm G (YR false) (xV fv) m := sm_xV' h
theorem y_l {fx : Sk → R RV} {m : M σ PV} (h : SmX G true fx m) : Sm G (YR true) fx m := ⟨fun s S hS r s' e => by
  have := h.go s S hS r s' e
  cases r with
  | exc x => exact this
  | ok a => obtain ⟨b, S', h1, h2, h3⟩ := this; exact ⟨b, S', h1, h2, h3.2 rfl⟩⟩
theorem ss_parX {fa fb : Sk → R RV} {m n : M σ PV} (i j : Nat) (o p : Bool) (h : Sm G (YR o) fa m) (h2 : Sm G (YR p) fb n) (hz : ∀ s, Z.P s (G s)) (hu : ∀ s, upAt (G s) i) (hv : ∀ s, upAt (G s) j) :
    Ss G Z Gb (fun (t : PV × PV) s => ((G s).set i (knOf o t.1)).set j (knOf p t.2)) (parXF i j fa fb) (qPar m n) := by
  refine Ss.of h hz fun a b e => ?_
  refine Ss.of h2 hz fun c d e2 => ?_
  refine ⟨fun s S hS r s' q => ?_⟩
  cases q
  have k1 : (knOf o a).At b.sl := by rw [show b = _ from e]; unfold knOf; cases o <;> rfl
  have k2 : (knOf p c).At d.sl := by rw [show d = _ from e2]; unfold knOf; cases p <;> rfl
  refine ⟨(S.set i b.sl).set j d.sl, ?_, AtL.set j (AtL.set i hS k1) k2⟩
  rw [if_pos ⟨(hu s).unp hS, (hv s).unp hS⟩]
/-! ### short names -/
def qAnd (m n : M σ PV) : M σ PV := mB m fun x => qIf (isB x) n (mP (.bl false))
def qOr (m n : M σ PV) : M σ PV := mB m fun x => qIf (isB x) (mP (.bl true)) n
def qNot (m : M σ PV) : M σ PV := mB m fun x => mB (isB x) fun b => mP (.bl (!b))
def qT (m : M σ PV) : M σ Bool := mB m isB
def qN (m : M σ Bool) : M σ Bool := mB m fun b => mP (!b)
def qIsi (T : Ty) (m : M σ PV) : M σ PV := mB m fun x => mP (.bl (isTy T x))
def qCall (q : List PV → M Unit PV) (m : M σ (List PV)) : M σ PV := mB m fun xs => mL (q xs)
def qCallB (q : List PV → M PV PV) (m : M PV (List PV)) : M PV PV := mB m q
def qRet (m : M σ PV) : M σ (Ct τ β) := mB m fun x => mP (.rt x)
def qSetS (m : M PV PV) : M PV (Ct Unit β) := mB m fun x => mB (mSt x) fun _ => mP (.nx ())
def qI (m : M σ PV) : M σ (Option Int) := mB m fun x => mB (isI x) fun i => mP (some i)
def qDo (m : M σ PV) : M σ (Ct Unit β) := mB m fun _ => mP (.nx ())
def qApp (l : PV) (m : M σ PV) : M σ (Ct PV β) := match l with
  | .lst l => mB m fun y => mB (mO (appO (.lst l) y)) fun x => mP (.nx x)
  | _ => mF
def qExt (l : PV) (m : M σ PV) : M σ (Ct PV β) := match l with
  | .lst l => mB m fun y => mB (mO (extO (.lst l) y)) fun x => mP (.nx x)
  | _ => mF
def qSt (l : PV) (m n : M σ PV) : M σ (Ct PV β) := match l with
  | .lst l => mB m fun x => mB n fun i => mB (mO (stO l x i)) fun z => mP (.nx z)
  | _ => mF
def qAug (sem : PV → PV → Option PV) (x : PV) (m : M σ PV) : M σ (Ct PV β) := mB m fun y => mB (mO (sem x y)) fun z => mP (.nx z)
theorem qapp {fv : Sk → R PV} {m : M σ PV} (j : Nat) {l : PV} (h : SmV G fv m) (hj : ∀ s, (G s)[j]? = some (.o l)) (hz : ∀ s, Z.P s (G s)) :
    Ss G Z Gb (fun x s => (G s).set j (.o x)) (exprF (mutF j agV sAppend (aCons (opv fv) aNil))) (qApp l m) := by
  cases l <;> first | exact ss_append j h hj hz | exact ⟨fun s S hS r s' e => by cases e⟩
theorem qext {fo : Sk → R OV} {m : M σ PV} (j : Nat) {l : PV} (h : SmO G fo m) (hj : ∀ s, (G s)[j]? = some (.o l)) (hz : ∀ s, Z.P s (G s)) :
    Ss G Z Gb (fun x s => (G s).set j (.o x)) (exprF (mutF j lookAll sExtend (aCons fo aNil))) (qExt l m) := by
  cases l <;> first | exact ss_extend j h hj hz | exact ⟨fun s S hS r s' e => by cases e⟩
theorem qst {fv fi : Sk → R PV} {m n : M σ PV} (j : Nat) {l : PV} (h : SmV G fv m) (h2 : SmV G fi n) (hj : ∀ s, (G s)[j]? = some (.o l)) (hz : ∀ s, Z.P s (G s)) :
    Ss G Z Gb (fun x s => (G s).set j (.o x)) (stF j fv fi) (qSt l m n) := by
  cases l <;> first | exact ss_st j h h2 hj hz | exact ⟨fun s S hS r s' e => by cases e⟩
end
/-! ### the plain readings run -/
section
variable {σ τ τ' β : Type}
theorem qOp1_d (sem : PV → Option PV) (m : M σ PV) : qOp1 sem m = mB m fun x => mO (sem x) := rfl
theorem qOp2_d (sem : PV → PV → Option PV) (m n : M σ PV) : qOp2 sem m n = mB m fun x => mB n fun y => mO (sem x y) := rfl
theorem qX2_d (sem : PV → PV → Option RV) (m n : M σ PV) : qX2 sem m n = mB m fun x => mB n fun y => mO ((sem x y).map RV.val) := rfl
@[simp] theorem qOp1_p (sem : PV → Option PV) (x : PV) : qOp1 sem (mP x : M σ PV) = mO (sem x) := rfl
@[simp] theorem qOp2_p (sem : PV → PV → Option PV) (x y : PV) : qOp2 sem (mP x : M σ PV) (mP y) = mO (sem x y) := rfl
@[simp] theorem qX2_p (sem : PV → PV → Option RV) (x y : PV) : qX2 sem (mP x : M σ PV) (mP y) = mO ((sem x y).map RV.val) := rfl
@[simp] theorem qAddL_p (x y : PV) : qAddL (mP x : M σ PV) (mP y) = mO (((sAddX x y).map RV.val).bind isL) := rfl
@[simp] theorem val_v (x : PV) : RV.val (.v x) = x := rfl
@[simp] theorem val_l (x : PV) : RV.val (.l x) = x := rfl
@[simp] theorem isL_lst (xs : List PV) : isL (.lst xs) = some (.lst xs) := rfl
@[simp] theorem qIf_p {α : Type} (b : Bool) (m n : M σ α) : qIf (mP b) m n = if b = true then m else n := rfl
@[simp] theorem qNil_p : (qNil : M σ (List PV)) = mP [] := rfl
@[simp] theorem qCons_p (x : PV) (xs : List PV) : qCons (mP x : M σ PV) (mP xs) = mP (x :: xs) := rfl
@[simp] theorem qOpA_p (sem : List PV → Option PV) (xs : List PV) : qOpA sem (mP xs : M σ (List PV)) = mO (sem xs) := rfl
@[simp] theorem qDisp_p (mk : List PV → PV) (xs : List PV) : qDisp mk (mP xs : M σ (List PV)) = mO ((short xs).map mk) := rfl
@[simp] theorem short_nil {α : Type} : short ([] : List α) = some [] := rfl
@[simp] theorem short_1 {α : Type} (a : α) : short [a] = some [a] := rfl
@[simp] theorem short_2 {α : Type} (a b : α) : short [a, b] = some [a, b] := rfl
@[simp] theorem short_3 {α : Type} (a b c : α) : short [a, b, c] = some [a, b, c] := rfl
@[simp] theorem short_4 {α : Type} (a b c d : α) : short [a, b, c, d] = some [a, b, c, d] := rfl
@[simp] theorem short_5 {α : Type} (a b c d e : α) : short [a, b, c, d, e] = some [a, b, c, d, e] := rfl
theorem short_ok {α : Type} {xs : List α} (h : xs.length ≤ 16777216) : short xs = some xs := if_pos h
@[simp] theorem qSl_p (x : PV) (i j : Option Int) : qSl (mP x : M σ PV) (mP i) (mP j) = mO ((sSlX x i j).map RV.val) := rfl
@[simp] theorem qSlL_p (x : PV) (i j : Option Int) : qSlL (mP x : M σ PV) (mP i) (mP j) = mO (((sSlX x i j).map RV.val).bind isL) := rfl
@[simp] theorem qSeq_p (x : PV) : qSeq (mP x : M σ PV) = mO (seqO x) := rfl
@[simp] theorem seqO_l (xs : List PV) : seqO (.lst xs) = some xs := rfl
@[simp] theorem seqO_t (xs : List PV) : seqO (.tup xs) = some xs := rfl
@[simp] theorem seqO_c (xs : List Int) : seqO (.scr xs) = some (xs.map .int) := rfl
@[simp] theorem qArg_p (sem : List PV → Option (List PV)) (xs : List PV) : qArg sem (mP xs : M σ (List PV)) = mO (sem xs) := rfl
@[simp] theorem qEnum_p (x : PV) : qEnum (mP x : M σ PV) = mO (enumO x) := rfl
@[simp] theorem enumO_l (xs : List PV) : enumO (.lst xs) = some (enumP xs) := rfl
@[simp] theorem enumO_t (xs : List PV) : enumO (.tup xs) = some (enumP xs) := rfl
@[simp] theorem qAnd_p (b : Bool) (n : M σ PV) : qAnd (mP (.bl b) : M σ PV) n = if b = true then n else mP (.bl false) := rfl
@[simp] theorem qOr_p (b : Bool) (n : M σ PV) : qOr (mP (.bl b) : M σ PV) n = if b = true then mP (.bl true) else n := rfl
@[simp] theorem qNot_p (b : Bool) : qNot (mP (.bl b) : M σ PV) = mP (.bl (!b)) := rfl
@[simp] theorem qT_p (b : Bool) : qT (mP (.bl b) : M σ PV) = mP b := rfl
@[simp] theorem qN_p (b : Bool) : qN (mP b : M σ Bool) = mP (!b) := rfl
@[simp] theorem qIsi_p (T : Ty) (x : PV) : qIsi T (mP x : M σ PV) = mP (.bl (isTy T x)) := rfl
@[simp] theorem qCall_p (q : List PV → M Unit PV) (xs : List PV) : qCall q (mP xs : M σ (List PV)) = mL (q xs) := rfl
@[simp] theorem qCallB_p (q : List PV → M PV PV) (xs : List PV) : qCallB q (mP xs) = q xs := rfl
@[simp] theorem qRet_p (x : PV) : (qRet (mP x : M σ PV) : M σ (Ct τ β)) = mP (.rt x) := rfl
@[simp] theorem qSet_p (x : PV) : (qSet (mP x : M σ PV) : M σ (Ct PV β)) = mP (.nx x) := rfl
@[simp] theorem qI_p (i : Int) : qI (mP (.int i) : M σ PV) = mP (some i) := rfl
@[simp] theorem qDo_p (x : PV) : (qDo (mP x : M σ PV) : M σ (Ct Unit β)) = mP (.nx ()) := rfl
@[simp] theorem qPar_p (x y : PV) : (qPar (mP x : M σ PV) (mP y) : M σ (Ct (PV × PV) β)) = mP (.nx (x, y)) := rfl
@[simp] theorem qAsg_p (pt : PV → Option (List PV)) (x : PV) : (qAsg pt (mP x : M σ PV) : M σ (Ct (List PV) β)) = mB (mO (pt x)) fun ys => mP (.nx ys) := rfl
@[simp] theorem qAug_p (sem : PV → PV → Option PV) (x y : PV) : (qAug sem x (mP y : M σ PV) : M σ (Ct PV β)) = mB (mO (sem x y)) fun z => mP (.nx z) := rfl
@[simp] theorem qApp_p (l : List PV) (y : PV) : (qApp (.lst l) (mP y : M σ PV) : M σ (Ct PV β)) = mB (mO (appO (.lst l) y)) fun x => mP (.nx x) := rfl
@[simp] theorem qExt_p (l : List PV) (y : PV) : (qExt (.lst l) (mP y : M σ PV) : M σ (Ct PV β)) = mB (mO (extO (.lst l) y)) fun x => mP (.nx x) := rfl
@[simp] theorem qSt_p (l : List PV) (x i : PV) : (qSt (.lst l) (mP x : M σ PV) (mP i) : M σ (Ct PV β)) = mB (mO (stO l x i)) fun z => mP (.nx z) := rfl
theorem appO_ok {l : List PV} {y : PV} (h : l.length < 16777216) : appO (.lst l) y = some (.lst (l ++ [y])) := by
  show ((if l.length < 16777216 then some (PV.non, PV.lst (l ++ [y])) else none).map (·.2)) = _
  rw [if_pos h]
  rfl
@[simp] theorem qS_nx (t : τ) (k : τ → M σ (Ct τ' β)) : qS (mP (.nx t)) k = k t := rfl
@[simp] theorem qS_rt (x : PV) (k : τ → M σ (Ct τ' β)) : qS (mP (.rt x)) k = mP (.rt x) := rfl
@[simp] theorem qS_bk (x : β) (k : τ → M σ (Ct τ' β)) : qS (mP (.bk x)) k = mP (.bk x) := rfl
@[simp] theorem qS_ct (x : β) (k : τ → M σ (Ct τ' β)) : qS (mP (.ct x)) k = mP (.ct x) := rfl
@[simp] theorem qS_fail (k : τ → M σ (Ct τ' β)) : qS (mF : M σ (Ct τ β)) k = mF := rfl
theorem qS_ite (c : Prop) [Decidable c] (m n : M σ (Ct τ β)) (k : τ → M σ (Ct τ' β)) : qS (if c then m else n) k = if c then qS m k else qS n k := by split <;> rfl
@[simp] theorem qS_bind {α : Type} (m : M σ α) (l : α → M σ (Ct τ β)) (k : τ → M σ (Ct τ' β)) : qS (mB m l) k = mB m fun a => qS (l a) k := mB_assoc m l _
@[simp] theorem qEnd_rt (fr : Bool) (x : PV) : qEnd fr (mP (.rt x) : M σ (Ct Unit Unit)) = mP x := rfl
@[simp] theorem qEnd_nx (t : Unit) : qEnd false (mP (.nx t) : M σ (Ct Unit Unit)) = mP .non := rfl
@[simp] theorem qEnd_bind {α : Type} (fr : Bool) (m : M σ α) (l : α → M σ (Ct Unit Unit)) : qEnd fr (mB m l) = mB m fun a => qEnd fr (l a) := mB_assoc m l _
theorem qEnd_ite (fr : Bool) (c : Prop) [Decidable c] (m n : M σ (Ct Unit Unit)) : qEnd fr (if c then m else n) = if c then qEnd fr m else qEnd fr n := by split <;> rfl
@[simp] theorem qComp_p (pt : PV → Option (List PV)) (xs : List PV) (c : List PV → M σ Bool) (e : List PV → M σ PV) : qComp pt (mP xs) c e = mB (mO (short xs)) fun xs => mB (mO (ptAll pt xs)) fun rs => mB (mK (compQ c e rs)) fun ys => mP (.lst ys) := rfl
@[simp] theorem qFor_p (pt : PV → Option (List PV)) (xs : List PV) (body : τ → List PV → M σ (Ct τ τ)) (t : τ) : (qFor pt (mP xs) body t : M σ (Ct τ β)) = mB (mO (ptAll pt xs)) fun rs => forM body rs t := rfl
end
end VL

set_option Elab.async false
set_option linter.all false
set_option autoImplicit false
set_option maxRecDepth 100000
set_option maxHeartbeats 4000000
namespace VL
open PySem L2
/-! ### what is alike -/
mutual
def szP : PV → Nat
  | .tup xs => szPs xs + 1
  | _ => 1
def szPs : List PV → Nat
  | [] => 0
  | x :: xs => szP x + szPs xs
end
def okL : Nat → PV → Bool
  | _, .non => true
  | _, .bl _ => true
  | _, .int _ => true
  | n + 1, .tup xs => xs.all (okL n)
  | _, _ => false
theorem szP_pos (x : PV) : 1 ≤ szP x := by
  cases x <;> first | (show 1 ≤ szPs _ + 1; omega) | exact Nat.le_refl 1
theorem szPs_app : ∀ (xs ys : List PV), szPs (xs ++ ys) = szPs xs + szPs ys
  | [], ys => by simp [szPs]
  | x :: xs, ys => by simp only [List.cons_append, szPs, szPs_app xs ys]; omega
theorem szPs_len : ∀ (xs : List PV), xs.length ≤ szPs xs
  | [] => Nat.le_refl 0
  | x :: xs => by
    have := szPs_len xs
    have := szP_pos x
    simp only [szPs, List.length_cons]
    omega
theorem okL_lay : ∀ (n : Nat) (x : PV), okL n x = true → (toPD x).canLay0 = true ∧ (toPD x).depth ≤ n
  | 0, x, h => by
    cases x <;> first | exact ⟨rfl, Nat.le_refl 0⟩ | cases h
  | n + 1, x, h => by
    cases x <;> first | exact ⟨rfl, Nat.zero_le _⟩ | (cases h; done) | skip
    rename_i xs
    have h' : xs.all (okL n) = true := h
    have go : ∀ ys : List PV, ys.all (okL n) = true → PyData.canLayAll0 (toPDs ys) = true ∧ PyData.depthAll (toPDs ys) ≤ n := by
      intro ys
      induction ys with
      | nil => intro _; exact ⟨rfl, Nat.zero_le _⟩
      | cons y ys ih =>
        intro hy
        rw [List.all_cons, Bool.and_eq_true] at hy
        obtain ⟨a1, a2⟩ := okL_lay n y hy.1
        obtain ⟨b1, b2⟩ := ih hy.2
        refine ⟨?_, Nat.max_le.mpr ⟨a2, b2⟩⟩
        show (PyData.canLay0 (toPD y) && PyData.canLayAll0 (toPDs ys)) = true
        rw [a1, b1]
        rfl
    obtain ⟨c1, c2⟩ := go xs h'
    exact ⟨c1, Nat.succ_le_succ c2⟩
theorem okL_pOk {n : Nat} {x : PV} (hn : n ≤ 60) (h : okL n x = true) : pOk x = true := by
  obtain ⟨h1, h2⟩ := okL_lay n x h
  show (PyData.canLay0 (toPD x) && decide ((toPD x).depth ≤ 64)) = true
  rw [h1, Bool.true_and, decide_eq_true_eq]
  omega
theorem okL_succ : ∀ (n : Nat) (x : PV), okL n x = true → okL (n + 1) x = true
  | n, .non, _ => rfl
  | n, .bl _, _ => rfl
  | n, .int _, _ => rfl
  | 0, .tup xs, h => by cases h
  | n + 1, .tup xs, h => by
    show xs.all (okL (n + 1)) = true
    rw [List.all_eq_true]
    intro x hx
    exact okL_succ n x (List.all_eq_true.mp (show xs.all (okL n) = true from h) x hx)
  | 0, .str _, h => by cases h
  | n + 1, .str _, h => by cases h
  | 0, .lst _, h => by cases h
  | n + 1, .lst _, h => by cases h
  | 0, .dk _, h => by cases h
  | n + 1, .dk _, h => by cases h
  | 0, .dt _, h => by cases h
  | n + 1, .dt _, h => by cases h
  | 0, .scr _, h => by cases h
  | n + 1, .scr _, h => by cases h
abbrev prP (x : PV) : PV := .tup [x, x]
theorem prs_pOk {n : Nat} (hn : n ≤ 60) {ys : List PV} (h : ∀ y ∈ ys, okL n y = true) : pOk (.lst (ys.map prP)) = true := by
  have go : ∀ ys : List PV, (∀ y ∈ ys, okL n y = true) → PyData.canLayAll0 (toPDs (ys.map prP)) = true ∧ PyData.depthAll (toPDs (ys.map prP)) ≤ n + 1 := by
    intro ys
    induction ys with
    | nil => intro _; exact ⟨rfl, Nat.zero_le _⟩
    | cons y ys ih =>
      intro hy
      obtain ⟨a1, a2⟩ := okL_lay n y (hy y List.mem_cons_self)
      obtain ⟨b1, b2⟩ := ih fun z hz => hy z (List.mem_cons_of_mem _ hz)
      refine ⟨?_, Nat.max_le.mpr ⟨?_, b2⟩⟩
      · show ((PyData.canLay0 (toPD y) && (PyData.canLay0 (toPD y) && true)) && PyData.canLayAll0 (toPDs (ys.map prP))) = true
        rw [a1, b1]
        rfl
      · show max (toPD y).depth (max (toPD y).depth 0) + 1 ≤ n + 1
        omega
  obtain ⟨c1, c2⟩ := go ys h
  show (PyData.canLayAll0 (toPDs (ys.map prP)) && decide (PyData.depthAll (toPDs (ys.map prP)) + 1 ≤ 64)) = true
  rw [c1, Bool.true_and, decide_eq_true_eq]
  omega
theorem zipP_self (xs : List PV) : zipP xs xs = xs.map prP := by
  induction xs with
  | nil => rfl
  | cons x xs ih =>
    show PV.tup [x, x] :: zipP xs xs = _
    rw [ih]
    rfl
theorem like_pop (zs : List PV) (y : PV) : sPop (.lst ((zs ++ [y]).map prP)) [] = some (prP y, .lst (zs.map prP)) := by
  simp [sPop]
end VL

set_option Elab.async false
set_option linter.all false
set_option autoImplicit false
set_option maxRecDepth 100000
set_option maxHeartbeats 4000000
/-! Q7: plain readings run: what is drawn, comprehensions, loops. -/
namespace VL
open PySem L2
section
variable {σ τ τ' β : Type}
@[simp] theorem qOp1_b (sem : PV → Option PV) (m : M σ PV) : qOp1 sem m = mB m fun x => mO (sem x) := rfl
@[simp] theorem qOp2_b (sem : PV → PV → Option PV) (m n : M σ PV) : qOp2 sem m n = mB m fun x => mB n fun y => mO (sem x y) := rfl
@[simp] theorem qX2_b (sem : PV → PV → Option RV) (m n : M σ PV) : qX2 sem m n = mB m fun x => mB n fun y => mO ((sem x y).map RV.val) := rfl
@[simp] theorem qIf_b {α : Type} (c : M σ Bool) (m n : M σ α) : qIf c m n = mB c fun b => if b = true then m else n := rfl
@[simp] theorem qCons_b (m : M σ PV) (r : M σ (List PV)) : qCons m r = mB m fun x => mB r fun xs => mP (x :: xs) := rfl
@[simp] theorem qOpA_b (sem : List PV → Option PV) (m : M σ (List PV)) : qOpA sem m = mB m fun xs => mO (sem xs) := rfl
@[simp] theorem qDisp_b (mk : List PV → PV) (m : M σ (List PV)) : qDisp mk m = mB m fun xs => mO ((short xs).map mk) := rfl
@[simp] theorem qSl_b (m : M σ PV) (l u : M σ (Option Int)) : qSl m l u = mB m fun x => mB l fun i => mB u fun j => mO ((sSlX x i j).map RV.val) := rfl
@[simp] theorem qSlL_b (m : M σ PV) (l u : M σ (Option Int)) : qSlL m l u = mB m fun x => mB l fun i => mB u fun j => mO (((sSlX x i j).map RV.val).bind isL) := rfl
@[simp] theorem qAddL_b (m n : M σ PV) : qAddL m n = mB m fun x => mB n fun y => mO (((sAddX x y).map RV.val).bind isL) := rfl
@[simp] theorem qSeq_b (m : M σ PV) : qSeq m = mB m fun x => mO (seqO x) := rfl
@[simp] theorem qArg_b (sem : List PV → Option (List PV)) (m : M σ (List PV)) : qArg sem m = mB m fun xs => mO (sem xs) := rfl
@[simp] theorem qEnum_b (m : M σ PV) : qEnum m = mB m fun x => mO (enumO x) := rfl
@[simp] theorem qAnd_b (m n : M σ PV) : qAnd m n = mB m fun x => mB (isB x) fun b => if b = true then n else mP (.bl false) := rfl
@[simp] theorem qOr_b (m n : M σ PV) : qOr m n = mB m fun x => mB (isB x) fun b => if b = true then mP (.bl true) else n := rfl
@[simp] theorem qNot_b (m : M σ PV) : qNot m = mB m fun x => mB (isB x) fun b => mP (.bl (!b)) := rfl
@[simp] theorem qT_b (m : M σ PV) : qT m = mB m isB := rfl
@[simp] theorem qN_b (m : M σ Bool) : qN m = mB m fun b => mP (!b) := rfl
@[simp] theorem qIsi_b (T : Ty) (m : M σ PV) : qIsi T m = mB m fun x => mP (.bl (isTy T x)) := rfl
@[simp] theorem qCall_b (q : List PV → M Unit PV) (m : M σ (List PV)) : qCall q m = mB m fun xs => mL (q xs) := rfl
@[simp] theorem qCallB_b (q : List PV → M PV PV) (m : M PV (List PV)) : qCallB q m = mB m q := rfl
@[simp] theorem qKw_b (n m : Nat) (is : List Nat) (a k : M σ (List PV)) : qKw n m is a k = mB a fun xs => mB k fun ys => if xs.length = n ∧ ys.length = m then mP (gI is (xs ++ ys)) else mF := rfl
@[simp] theorem qRet_b (m : M σ PV) : (qRet m : M σ (Ct τ β)) = mB m fun x => mP (.rt x) := rfl
@[simp] theorem qSet_b (m : M σ PV) : (qSet m : M σ (Ct PV β)) = mB m fun x => mP (.nx x) := rfl
@[simp] theorem qSetS_b (m : M PV PV) : (qSetS m : M PV (Ct Unit β)) = mB m fun x => mB (mSt x) fun _ => mP (.nx ()) := rfl
@[simp] theorem qI_b (m : M σ PV) : qI m = mB m fun x => mB (isI x) fun i => mP (some i) := rfl
@[simp] theorem qDo_b (m : M σ PV) : (qDo m : M σ (Ct Unit β)) = mB m fun _ => mP (.nx ()) := rfl
@[simp] theorem qPar_b (m n : M σ PV) : (qPar m n : M σ (Ct (PV × PV) β)) = mB m fun x => mB n fun y => mP (.nx (x, y)) := rfl
@[simp] theorem qAsg_b (pt : PV → Option (List PV)) (m : M σ PV) : (qAsg pt m : M σ (Ct (List PV) β)) = mB m fun x => mB (mO (pt x)) fun ys => mP (.nx ys) := rfl
@[simp] theorem qAug_b (sem : PV → PV → Option PV) (x : PV) (m : M σ PV) : (qAug sem x m : M σ (Ct PV β)) = mB m fun y => mB (mO (sem x y)) fun z => mP (.nx z) := rfl
end
end VL
namespace VL
open PySem L2
section
variable {σ τ τ' β α γ : Type}
@[simp] theorem qApp_b (l : List PV) (m : M σ PV) : (qApp (.lst l) m : M σ (Ct PV β)) = mB m fun y => mB (mO (appO (.lst l) y)) fun x => mP (.nx x) := rfl
@[simp] theorem qExt_b (l : List PV) (m : M σ PV) : (qExt (.lst l) m : M σ (Ct PV β)) = mB m fun y => mB (mO (extO (.lst l) y)) fun x => mP (.nx x) := rfl
@[simp] theorem qSt_b (l : List PV) (m n : M σ PV) : (qSt (.lst l) m n : M σ (Ct PV β)) = mB m fun x => mB n fun i => mB (mO (stO l x i)) fun z => mP (.nx z) := rfl
@[simp] theorem qComp_b (pt : PV → Option (List PV)) (mi : M σ (List PV)) (c : List PV → M σ Bool) (e : List PV → M σ PV) : qComp pt mi c e = mB mi fun xs => mB (mO (short xs)) fun xs => mB (mO (ptAll pt xs)) fun rs => mB (mK (compQ c e rs)) fun ys => mP (.lst ys) := rfl
@[simp] theorem qFor_b (pt : PV → Option (List PV)) (mi : M σ (List PV)) (body : τ → List PV → M σ (Ct τ τ)) (t : τ) : (qFor pt mi body t : M σ (Ct τ β)) = mB mi fun xs => mB (mO (ptAll pt xs)) fun rs => forM body rs t := rfl
@[simp] theorem ite_bl (c : Prop) [Decidable c] (p q : Bool) : (if c then PV.bl p else PV.bl q) = PV.bl (if c then p else q) := by split <;> rfl
@[simp] theorem ite_int (c : Prop) [Decidable c] (p q : Int) : (if c then PV.int p else PV.int q) = PV.int (if c then p else q) := by split <;> rfl
@[simp] theorem gI_cons_some {i : Nat} {is : List Nat} {l : List α} : gI (i :: is) l = (match l[i]? with
  | some x => x :: gI is l
  | none => gI is l) := by
  unfold gI
  rw [List.filterMap_cons]
  cases l[i]? <;> rfl
/-! what is taken apart -/
@[simp] theorem ptAll_1 : ∀ xs : List PV, ptAll pt1 xs = some (xs.map fun x => [x])
  | [] => rfl
  | x :: xs => by unfold ptAll; rw [ptAll_1 xs]; rfl
theorem ptAll_map {pt : PV → Option (List PV)} {φ : α → PV} {h : α → List PV} (e : ∀ a, pt (φ a) = some (h a)) : ∀ xs : List α, ptAll pt (xs.map φ) = some (xs.map h)
  | [] => rfl
  | x :: xs => by
    rw [List.map_cons]
    unfold ptAll
    rw [e x, ptAll_map e xs]
    rfl
@[simp] theorem ptAll_2 (u v : α → PV) (xs : List α) : ptAll (ptTup (ptCons pt1 (ptCons pt1 ptNil))) (xs.map fun a => .tup [u a, v a]) = some (xs.map fun a => [u a, v a]) := ptAll_map (fun _ => rfl) xs
@[simp] theorem ptAll_3 (u v w : α → PV) (xs : List α) : ptAll (ptTup (ptCons pt1 (ptCons pt1 (ptCons pt1 ptNil)))) (xs.map fun a => .tup [u a, v a, w a]) = some (xs.map fun a => [u a, v a, w a]) := ptAll_map (fun _ => rfl) xs
/-! comprehensions -/
@[simp] theorem compQ_map (f : γ → α) (c : α → M σ Bool) (e : α → M σ PV) : ∀ xs : List γ, compQ c e (xs.map f) = compQ (fun a => c (f a)) (fun a => e (f a)) xs
  | [] => rfl
  | x :: xs => by
    rw [List.map_cons]
    unfold compQ
    rw [compQ_map f c e xs]
@[simp] theorem compQ_pure (p : α → Bool) (g : α → PV) : ∀ xs : List α, compQ (fun a => (mP (p a) : M σ Bool)) (fun a => mP (g a)) xs = mP ((xs.filter p).map g)
  | [] => rfl
  | x :: xs => by
    unfold compQ
    rw [compQ_pure p g xs]
    cases h : p x with
    | true => simp [List.filter_cons_of_pos, h]
    | false => simp [List.filter_cons_of_neg, h]
@[simp high] theorem compQ_yes (g : α → PV) : ∀ xs : List α, compQ (fun _ => (mP true : M σ Bool)) (fun a => mP (g a)) xs = mP (xs.map g)
  | [] => rfl
  | x :: xs => by
    unfold compQ
    rw [compQ_yes g xs]
    rfl
theorem compQ_eq {c : α → M σ Bool} {e : α → M σ PV} (p : α → Bool) (g : α → PV) : ∀ xs : List α, (∀ x ∈ xs, c x = mP (p x)) → (∀ x ∈ xs, p x = true → e x = mP (g x)) → compQ c e xs = mP ((xs.filter p).map g)
  | [], _, _ => rfl
  | x :: xs, h1, h2 => by
    unfold compQ
    rw [compQ_eq p g xs (fun y hy => h1 y (List.mem_cons_of_mem _ hy)) (fun y hy => h2 y (List.mem_cons_of_mem _ hy)), h1 x List.mem_cons_self]
    cases h : p x with
    | true => simp [h2 x List.mem_cons_self h, List.filter_cons_of_pos, h]
    | false => simp [List.filter_cons_of_neg, h]
theorem compQ_all {e : α → M σ PV} (g : α → PV) (xs : List α) (h : ∀ x ∈ xs, e x = mP (g x)) : compQ (fun _ => (mP true : M σ Bool)) e xs = mP (xs.map g) := by
  have := compQ_eq (c := fun _ => (mP true : M σ Bool)) (e := e) (fun _ => true) g xs (fun _ _ => rfl) (fun x hx _ => h x hx)
  rw [List.filter_eq_self.mpr (fun _ _ => rfl)] at this
  exact this
/-! loops -/
@[simp] theorem forM_map (f : γ → α) (body : τ → α → M σ (Ct τ τ)) : ∀ (xs : List γ) (t : τ), (forM body (xs.map f) t : M σ (Ct τ β)) = forM (fun t a => body t (f a)) xs t
  | [], t => rfl
  | x :: xs, t => by
    rw [List.map_cons]
    unfold forM
    congr 1
    funext c
    cases c <;> first | rfl | exact forM_map f body xs _
theorem forM_nil (body : τ → α → M σ (Ct τ τ)) (t : τ) : (forM body [] t : M σ (Ct τ β)) = mP (.nx t) := rfl
theorem forM_nx {body : τ → α → M σ (Ct τ τ)} {x : α} {xs : List α} {t t' : τ} (h : body t x = mP (.nx t')) : (forM body (x :: xs) t : M σ (Ct τ β)) = forM body xs t' := by
  rw [forM.eq_2, h]; rfl
theorem forM_rt {body : τ → α → M σ (Ct τ τ)} {x : α} {xs : List α} {t : τ} {z : PV} (h : body t x = mP (.rt z)) : (forM body (x :: xs) t : M σ (Ct τ β)) = mP (.rt z) := by
  rw [forM.eq_2, h]; rfl
@[simp] theorem forM_pure (g : τ → α → τ) : ∀ (xs : List α) (t : τ), (forM (fun t a => mP (.nx (g t a))) xs t : M σ (Ct τ β)) = mP (.nx (xs.foldl g t))
  | [], t => rfl
  | x :: xs, t => by
    rw [forM_nx rfl, forM_pure g xs]
    rfl
/-- a loop whose turns all go on, by an invariant -/
theorem forM_inv {body : τ → α → M σ (Ct τ τ)} (g : τ → α → τ) (I : τ → Prop) : ∀ (xs : List α) (t : τ), I t → (∀ x ∈ xs, ∀ t, I t → body t x = mP (.nx (g t x)) ∧ I (g t x)) → (forM body xs t : M σ (Ct τ β)) = mP (.nx (xs.foldl g t)) ∧ I (xs.foldl g t)
  | [], t, h, _ => ⟨rfl, h⟩
  | x :: xs, t, h, hs => by
    obtain ⟨h1, h2⟩ := hs x List.mem_cons_self t h
    rw [forM_nx h1]
    exact forM_inv g I xs (g t x) h2 fun y hy => hs y (List.mem_cons_of_mem _ hy)
/-- .. typed: a state told by φ -/
theorem forM_typ {δ : Type} {body : τ → α → M σ (Ct τ τ)} (φ : δ → τ) (g : δ → α → δ) (I : δ → Prop) : ∀ (xs : List α) (d : δ), I d → (∀ x ∈ xs, ∀ d, I d → body (φ d) x = mP (.nx (φ (g d x))) ∧ I (g d x)) → (forM body xs (φ d) : M σ (Ct τ β)) = mP (.nx (φ (xs.foldl g d))) ∧ I (xs.foldl g d)
  | [], t, h, _ => ⟨rfl, h⟩
  | x :: xs, t, h, hs => by
    obtain ⟨h1, h2⟩ := hs x List.mem_cons_self t h
    rw [forM_nx h1]
    exact forM_typ φ g I xs (g t x) h2 fun y hy => hs y (List.mem_cons_of_mem _ hy)
/-- a search: the first turn that gives something out ends it -/
theorem forM_find {body : τ → α → M σ (Ct τ τ)} (p : α → Bool) (z : α → PV) (t : τ) : ∀ xs : List α, (∀ x ∈ xs, body t x = if p x = true then mP (.rt (z x)) else mP (.nx t)) → (forM body xs t : M σ (Ct τ β)) = match xs.find? p with
    | some x => mP (.rt (z x))
    | none => mP (.nx t)
  | [], _ => rfl
  | x :: xs, h => by
    have hx := h x List.mem_cons_self
    cases hp : p x with
    | true => rw [hp, if_pos rfl] at hx; rw [forM_rt hx, List.find?_cons_of_pos hp]
    | false => rw [hp, if_neg (by decide)] at hx; rw [forM_nx hx, List.find?_cons_of_neg (by rw [hp]; decide)]; exact forM_find p z t xs fun y hy => h y (List.mem_cons_of_mem _ hy)
end
/-! ### what is drawn -/
def Bx (b : PV) : Prop := ∃ a c : Int, b = .lst [.int a, .int c]
/-- whatever is drawn, it ends, with Q -/
def Dr {α : Type} (m : M PV α) (Q : α → Prop) : Prop := ∀ b, Bx b → ∃ a b', m b = some (.ok a, b') ∧ Bx b' ∧ Q a
section
variable {α β γ τ τ' : Type} {m : M PV α} {Q R : α → Prop}
theorem Dr.p {a : α} (h : Q a) : Dr (mP a) Q := fun b hb => ⟨a, b, rfl, hb, h⟩
theorem Dr.b {k : α → M PV β} {R : β → Prop} (h : Dr m Q) (hk : ∀ a, Q a → Dr (k a) R) : Dr (mB m k) R := fun b hb => by
  obtain ⟨a, b1, h1, h2, h3⟩ := h b hb
  obtain ⟨c, b2, h4, h5, h6⟩ := hk a h3 b1 h2
  exact ⟨c, b2, by rw [mB_ok h1]; exact h4, h5, h6⟩
theorem Dr.w (h : Dr m Q) (hi : ∀ a, Q a → R a) : Dr m R := fun b hb => by
  obtain ⟨a, b1, h1, h2, h3⟩ := h b hb
  exact ⟨a, b1, h1, h2, hi a h3⟩
theorem Dr.k (h : Dr m Q) : Dr (mK m) Q := fun b hb => by
  obtain ⟨a, b1, h1, h2, h3⟩ := h b hb
  exact ⟨a, b1, by unfold mK; rw [h1], h2, h3⟩
theorem Dr.l {m : M Unit α} {a : α} (h : m = mP a) (q : Q a) : Dr (mL m) Q := by rw [h]; exact Dr.p q
theorem Dr.st {b : PV} {Q : Unit → Prop} (h : Bx b) (q : Q ()) : Dr (mSt b) Q := fun _ _ => ⟨(), b, rfl, h, q⟩
theorem Dr.e {m n : M PV α} (h : Dr n Q) (e : m = n) : Dr m Q := by rw [e]; exact h
/-- one behind another -/
theorem Dr.s {m : M PV (Ct τ β)} {k : τ → M PV (Ct τ' β)} {I : τ → Prop} {R : Ct τ' β → Prop} (h : Dr m fun c => ∃ t, c = .nx t ∧ I t) (hk : ∀ t, I t → Dr (k t) R) : Dr (qS m k) R :=
  Dr.b h fun c ⟨t, e, ht⟩ => by subst e; exact hk t ht
theorem Dr.f {body : τ → α → M PV (Ct τ τ)} {I : τ → Prop} : ∀ {xs : List α} {t : τ}, I t → (∀ x ∈ xs, ∀ t, I t → Dr (body t x) fun c => ∃ t', (c = .nx t' ∨ c = .ct t') ∧ I t') → Dr (forM body xs t : M PV (Ct τ β)) fun c => ∃ t', c = .nx t' ∧ I t'
  | [], t, h, _ => Dr.p ⟨t, rfl, h⟩
  | x :: xs, t, h, hs => Dr.b (hs x List.mem_cons_self t h) fun c ⟨t', e, ht⟩ => by
    rcases e with e | e <;> (subst e; exact Dr.f ht fun y hy => hs y (List.mem_cons_of_mem _ hy))
/-- .. that may end by giving r out, all else kept -/
theorem Dr.fn {body : Unit → α → M PV (Ct Unit Unit)} {xs : List α} (hs : ∀ x ∈ xs, Dr (body () x) fun c => c = .nx () ∨ c = .ct ()) : Dr (forM body xs () : M PV (Ct Unit β)) fun c => ∃ t', c = .nx t' ∧ True :=
  Dr.f (I := fun _ => True) trivial fun x hx t _ => (hs x hx).w fun c h => ⟨(), h, trivial⟩
/-- a comprehension: those that are taken, what comes of each -/
theorem Dr.c {δ : Type} {c : α → M PV Bool} {e : α → M PV PV} (φ : δ → PV) (P : α → δ → Prop) : ∀ (xs : List α), (∀ x ∈ xs, Dr (c x) fun b => b = true → Dr (e x) fun y => ∃ d, y = φ d ∧ P x d) → Dr (compQ c e xs) fun ys => ∃ ds : List δ, ys = ds.map φ ∧ ds.length ≤ xs.length ∧ ∀ d ∈ ds, ∃ x ∈ xs, P x d
  | [], _ => Dr.p ⟨[], rfl, Nat.le_refl _, fun d hd => by cases hd⟩
  | x :: xs, hs => Dr.b (hs x List.mem_cons_self) fun b hb => by
    have ih := Dr.c φ P xs fun y hy => hs y (List.mem_cons_of_mem _ hy)
    cases b with
    | false =>
      rw [if_neg (by decide)]
      exact ih.w fun ys ⟨ds, h1, h2, h3⟩ => ⟨ds, h1, Nat.le_succ_of_le h2, fun d hd => by
        obtain ⟨y, hy, p⟩ := h3 d hd
        exact ⟨y, List.mem_cons_of_mem _ hy, p⟩⟩
    | true =>
      rw [if_pos rfl]
      refine Dr.b (hb rfl) fun y ⟨d, e1, p⟩ => Dr.b ih fun ys ⟨ds, h1, h2, h3⟩ => Dr.p ?_
      subst e1; subst h1
      refine ⟨d :: ds, rfl, Nat.succ_le_succ h2, fun d' hd => ?_⟩
      rcases List.mem_cons.mp hd with z | z
      · exact ⟨x, List.mem_cons_self, by rw [z]; exact p⟩
      · obtain ⟨y, hy, p⟩ := h3 d' z
        exact ⟨y, List.mem_cons_of_mem _ hy, p⟩
/-- .. of all -/
theorem Dr.ca {δ : Type} {e : α → M PV PV} (φ : δ → PV) (P : δ → Prop) : ∀ (xs : List α), (∀ x ∈ xs, Dr (e x) fun y => ∃ d, y = φ d ∧ P d) → Dr (compQ (fun _ => mP true) e xs) fun ys => ∃ ds : List δ, ys = ds.map φ ∧ ds.length = xs.length ∧ ∀ d ∈ ds, P d
  | [], _ => Dr.p ⟨[], rfl, rfl, fun d hd => by cases hd⟩
  | x :: xs, hs => by
    have ih := Dr.ca φ P xs fun y hy => hs y (List.mem_cons_of_mem _ hy)
    unfold compQ
    rw [mB_pure, if_pos rfl]
    refine Dr.b (hs x List.mem_cons_self) fun y ⟨d, e1, p⟩ => Dr.b ih fun ys ⟨ds, h1, h2, h3⟩ => Dr.p ?_
    subst e1; subst h1
    refine ⟨d :: ds, rfl, congrArg Nat.succ h2, fun d' hd => ?_⟩
    rcases List.mem_cons.mp hd with z | z
    · rw [z]; exact p
    · exact h3 d' z
/-- .. a choice -/
theorem Dr.cf {c : α → M PV Bool} (g : α → PV) : ∀ (xs : List α), (∀ x ∈ xs, Dr (c x) fun _ => True) → Dr (compQ c (fun x => mP (g x)) xs) fun ys => ∃ zs : List α, ys = zs.map g ∧ zs.Sublist xs
  | [], _ => Dr.p ⟨[], rfl, .slnil⟩
  | x :: xs, hs => Dr.b (hs x List.mem_cons_self) fun b _ => by
    have ih := Dr.cf (c := c) g xs fun y hy => hs y (List.mem_cons_of_mem _ hy)
    cases b with
    | false =>
      rw [if_neg (by decide)]
      exact ih.w fun ys ⟨zs, h1, h2⟩ => ⟨zs, h1, .cons x h2⟩
    | true =>
      rw [if_pos rfl, mB_pure]
      exact Dr.b ih fun ys ⟨zs, h1, h2⟩ => Dr.p ⟨x :: zs, by rw [h1]; rfl, .cons₂ x h2⟩
end
/-! ### take, like -/
def takeR (a c k : Int) : Int := if 0 < a then a % k else (((c * 39373 + 419) % 2147483647 * 2147483629 + (((c * 39373 + 419) % 2147483647 * 40692 + 43) % 2147483399 + 1)) / 8209) % k
def takeA (a c k : Int) : Int := if 0 < a then a / k else a
def takeC (a c k : Int) : Int := if 0 < a then c else (((c * 39373 + 419) % 2147483647 * 40692 + 43) % 2147483399 + 1)
def Q_law_take (m : PV) : M PV PV := fun b => match b, m with
  | .lst [.int a, .int c], .int k => if 0 < k ∧ k.natAbs.log2 < 9000 then some (.ok (.int (takeR a c k)), .lst [.int (takeA a c k), .int (takeC a c k)]) else none
  | _, _ => none
theorem small_log {m : Int} (h0 : 0 ≤ m) (h : m < 16777217) : m.natAbs.log2 < 9000 := by
  have : m.natAbs < 2 ^ 25 := by omega
  have := log2_le this
  omega
theorem Dr.take {k : Int} (h : 0 < k) (hl : k < 16777217) : Dr (Q_law_take (.int k)) fun x => ∃ r : Int, x = .int r ∧ 0 ≤ r ∧ r < k := fun b ⟨a, c, e⟩ => by
  subst e
  refine ⟨_, _, if_pos ⟨h, small_log (by omega) hl⟩, ⟨_, _, rfl⟩, takeR a c k, rfl, ?_⟩
  unfold takeR
  split
  · exact ⟨Int.emod_nonneg _ (by omega), Int.emod_lt_of_pos _ h⟩
  · exact ⟨Int.emod_nonneg _ (by omega), Int.emod_lt_of_pos _ h⟩
open Classical in
noncomputable def Q_law_like (x y : PV) : M Unit PV := if x = y ∧ okL 30 y = true ∧ szP y < 999999 then mP (.bl true) else mF
theorem Q_like_ok {x : PV} (h1 : okL 30 x = true) (h2 : szP x < 999999) : Q_law_like x x = mP (.bl true) := by
  unfold Q_law_like
  rw [if_pos ⟨rfl, h1, h2⟩]
end VL

set_option Elab.async false
set_option linter.all false
set_option autoImplicit false
set_option maxRecDepth 100000
set_option maxHeartbeats 4000000
/-! Q8: the law's own frame. -/
namespace VL
open PySem L2
/-- a box is made -/
def IsBx (m : M Unit PV) : Prop := ∃ b, m = mP b ∧ Bx b
theorem IsBx.mk (a c : Int) : IsBx (mP (.lst [.int a, .int c])) := ⟨_, rfl, a, c, rfl⟩
/-- whatever lay in the box -/
def Dj {α : Type} (m : M PV α) (Q : α → Prop) : Prop := ∀ b, ∃ a b', m b = some (.ok a, b') ∧ Q a
section
variable {α β γ τ τ' : Type} {m : M PV α} {Q R : α → Prop}
theorem Dj.p {a : α} (h : Q a) : Dj (mP a) Q := fun b => ⟨a, b, rfl, h⟩
theorem Dj.b {k : α → M PV β} {R : β → Prop} (h : Dj m Q) (hk : ∀ a, Q a → Dj (k a) R) : Dj (mB m k) R := fun b => by
  obtain ⟨a, b1, h1, h3⟩ := h b
  obtain ⟨c, b2, h4, h6⟩ := hk a h3 b1
  exact ⟨c, b2, by rw [mB_ok h1]; exact h4, h6⟩
theorem Dj.w (h : Dj m Q) (hi : ∀ a, Q a → R a) : Dj m R := fun b => by
  obtain ⟨a, b1, h1, h3⟩ := h b
  exact ⟨a, b1, h1, hi a h3⟩
theorem Dj.st {x : PV} {k : Unit → M PV β} {R : β → Prop} (h : Bx x) (hk : Dr (k ()) R) : Dj (mB (mSt x) k) R := fun b => by
  obtain ⟨a, b1, h1, _, h3⟩ := hk x h
  exact ⟨a, b1, h1, h3⟩
theorem Dj.box {m : M Unit PV} {k : PV → M PV β} {R : β → Prop} (h : IsBx m) (hk : ∀ x, Bx x → Dj (k x) R) : Dj (mB (mL m) k) R := by
  obtain ⟨b, rfl, hb⟩ := h
  exact hk b hb
theorem Dj.s {m : M PV (Ct τ β)} {k : τ → M PV (Ct τ' β)} {I : τ → Prop} {R : Ct τ' β → Prop} (h : Dj m fun c => ∃ t, c = .nx t ∧ I t) (hk : ∀ t, I t → Dj (k t) R) : Dj (qS m k) R :=
  Dj.b h fun c ⟨t, e, ht⟩ => by subst e; exact hk t ht
theorem Dj.f {body : τ → α → M PV (Ct τ τ)} {I : τ → Prop} : ∀ {xs : List α} {t : τ}, I t → (∀ x ∈ xs, ∀ t, I t → Dj (body t x) fun c => ∃ t', (c = .nx t' ∨ c = .ct t') ∧ I t') → Dj (forM body xs t : M PV (Ct τ β)) fun c => ∃ t', c = .nx t' ∧ I t'
  | [], t, h, _ => Dj.p ⟨t, rfl, h⟩
  | x :: xs, t, h, hs => Dj.b (hs x List.mem_cons_self t h) fun c ⟨t', e, ht⟩ => by
    rcases e with e | e <;> (subst e; exact Dj.f ht fun y hy => hs y (List.mem_cons_of_mem _ hy))
theorem Dj.fn {body : Unit → α → M PV (Ct Unit Unit)} {xs : List α} (hs : ∀ x ∈ xs, Dj (body () x) fun c => c = .nx () ∨ c = .ct ()) : Dj (forM body xs () : M PV (Ct Unit β)) fun c => ∃ t', c = .nx t' ∧ True :=
  Dj.f (I := fun _ => True) trivial fun x hx t _ => (hs x hx).w fun c h => ⟨(), h, trivial⟩
theorem law_of {m : M PV (Ct Unit Unit)} (h : Dj m fun c => c = .rt (.bl true)) : mR (qEnd false m) () = some (.ok (.bl true), ()) := by
  obtain ⟨a, b', h1, rfl⟩ := h .non
  unfold mR
  have : qEnd false m .non = some (.ok (.bl true), b') := by
    unfold qEnd
    rw [mB_ok h1]
    rfl
  rw [this]
end
end VL

set_option Elab.async false
set_option linter.all false
set_option autoImplicit false
set_option maxRecDepth 100000
set_option maxHeartbeats 4000000
/-! Q9: several names at once, zip, repeated lists, pop: plain readings. -/
namespace VL
open PySem L2
section
variable {σ τ τ' β : Type} {G : σ → List Kn} {Z : Zt σ} {Gb : β → σ → List Kn} {Gn : τ → σ → List Kn}
def qXs : List (M σ PV) → M σ (List PV)
  | [] => mP []
  | m :: ms => mB m fun x => mB (qXs ms) fun xs => mP (x :: xs)
inductive YRs : List Bool → List PV → List RV → Prop
  | nil : YRs [] [] []
  | cons {o : Bool} {x : PV} {r : RV} {os : List Bool} {xs : List PV} {rs : List RV} : YR o x r → YRs os xs rs → YRs (o :: os) (x :: xs) (r :: rs)
abbrev SmXs (G : σ → List Kn) (os : List Bool) (fs : List (Sk → R RV)) (ms : List (M σ PV)) : Prop := Sm G (YRs os) (evX fs) (qXs ms)
theorem xs_nil : SmXs G [] [] [] := Sm.of (fun _ _ _ => rfl) .nil
theorem xs_cons {o : Bool} {f : Sk → R RV} {m : M σ PV} {os : List Bool} {fs : List (Sk → R RV)} {ms : List (M σ PV)} (h : Sm G (YR o) f m) (hs : SmXs G os fs ms) : SmXs G (o :: os) (f :: fs) (m :: ms) :=
  Sm.conv (Sm.bind h fun a b e => Sm.bind hs fun c d e' => Sm.of (b := b :: d) (fun _ _ _ => rfl) (.cons e e')) fun S => rfl
def setsK (ks : List Kn) : List Nat → List Bool → List PV → List Kn
  | i :: is, o :: os, y :: ys => setsK (ks.set i (if o = true then .o y else .v y)) is os ys
  | _, _, _ => ks
theorem YRs.len {os : List Bool} {xs : List PV} {rs : List RV} (h : YRs os xs rs) : rs.length = os.length := by
  induction h with
  | nil => rfl
  | cons _ _ ih => rw [List.length_cons, List.length_cons, ih]
theorem setRs_at : ∀ (is : List Nat) {os : List Bool} {ys : List PV} {rs : List RV} {ks : List Kn} {S : Sk}, YRs os ys rs → AtL ks S → AtL (setsK ks is os ys) (setRs is rs S)
  | [], _, _, _, _, _, h, a => by cases h <;> exact a
  | i :: is, _, _, _, _, _, .nil, a => a
  | i :: is, o :: os, y :: ys, r :: rs, ks, S, .cons e h, a => by
    have : Kn.At (if o = true then Kn.o y else Kn.v y) r.sl := by
      rw [show r = _ from e]
      cases o <;> rfl
    exact setRs_at is h (a.set i this)
def qAsgX (ms : List (M σ PV)) : M σ (Ct (List PV) β) := mB (qXs ms) fun ys => mP (.nx ys)
theorem qasgX {is : List Nat} {os : List Bool} {fs : List (Sk → R RV)} {ms : List (M σ PV)} (h : SmXs G os fs ms) (hl : os.length = is.length) (hz : ∀ s, Z.P s (G s)) (hu : ∀ s, upB (G s) is = true) :
    Ss G Z Gb (fun ys s => setsK (G s) is os ys) (asgXF is fs) (qAsgX ms) := by
  refine Ss.of h hz fun ys rs e => ⟨fun s S hS r s' q => ?_⟩
  cases q
  refine ⟨setRs is rs S, ?_, setRs_at is e hS⟩
  rw [if_pos ⟨List.all_eq_true.mpr fun i hi => (upB_of (hu s) i hi).unp hS, e.len.trans hl⟩]
@[simp] theorem short_6 {α : Type} (a b c d e f : α) : short [a, b, c, d, e, f] = some [a, b, c, d, e, f] := rfl
@[simp] theorem short_7 {α : Type} (a b c d e f g : α) : short [a, b, c, d, e, f, g] = some [a, b, c, d, e, f, g] := rfl
@[simp] theorem short_8 {α : Type} (a b c d e f g h : α) : short [a, b, c, d, e, f, g, h] = some [a, b, c, d, e, f, g, h] := rfl
@[simp] theorem qXs_nil : (qXs [] : M σ (List PV)) = mP [] := rfl
@[simp] theorem qXs_cons (m : M σ PV) (ms : List (M σ PV)) : qXs (m :: ms) = mB m fun x => mB (qXs ms) fun xs => mP (x :: xs) := rfl
@[simp] theorem qAsgX_b (ms : List (M σ PV)) : (qAsgX ms : M σ (Ct (List PV) β)) = mB (qXs ms) fun ys => mP (.nx ys) := rfl
/-! ### a new list so many times -/
def qRep (m n : M σ PV) : M σ PV := mB m fun x => mB n fun y => mO (repS x y)
@[simp] theorem qRep_b (m n : M σ PV) : qRep m n = mB m fun x => mB n fun y => mO (repS x y) := rfl
theorem sm_rep {f : Sk → R PV} {g : Sk → R OV} {m n : M σ PV} (h : SmV G f m) (h2 : SmO G g n) : SmV G (repL f g) (qRep m n) := by
  refine Sm.conv (Sm.bind h fun a b e => Sm.bind h2 fun c o ho => ?_) fun S => rfl
  subst e
  refine Sm.ofO fun z hz => ⟨z, rfl, fun s S hS => ?_⟩
  dsimp only
  rw [ho s S hS]
  dsimp only
  rw [hz]
theorem repS_1 (x : PV) {k : Int} (h : 0 ≤ k) (h2 : k ≤ 1000000) : repS (.lst [x]) (.int k) = some (.lst (List.replicate k.toNat x)) := by
  have e : (List.replicate k.toNat [x]).flatten = List.replicate k.toNat x := by
    generalize k.toNat = n
    induction n with
    | zero => rfl
    | succ n ih => rw [List.replicate_succ, List.replicate_succ, List.flatten_cons, ih]; rfl
  show (if -(2 ^ 63) ≤ k ∧ k < 2 ^ 63 ∧ [x].length * k.toNat ≤ 16777216 then some (PV.lst (List.replicate k.toNat [x]).flatten) else none) = _
  rw [if_pos ⟨by omega, by omega, by simp; omega⟩, e]
/-! ### zip -/
@[simp] theorem sZip_t (xs ys : List PV) : sZip [.tup xs, .tup ys] = some (zipP xs ys) := rfl
@[simp] theorem sZip_l (xs ys : List PV) : sZip [.lst xs, .lst ys] = some (zipP xs ys) := rfl
theorem zipP_map {α γ : Type} (f : α → PV) (g : γ → PV) : ∀ (xs : List α) (ys : List γ), zipP (xs.map f) (ys.map g) = (xs.zip ys).map fun p => .tup [f p.1, g p.2]
  | [], ys => by cases ys <;> rfl
  | x :: xs, [] => rfl
  | x :: xs, y :: ys => by
    have := zipP_map f g xs ys
    unfold zipP at this ⊢
    simp at this ⊢
    exact this
theorem enumP_map {α : Type} (f : α → PV) (xs : List α) : enumP (xs.map f) = xs.zipIdx.map fun p => .tup [.int (p.2 : Nat), f p.1] := by
  unfold enumP
  rw [List.zipIdx_map, List.map_map]
  rfl
/-! ### what takes from a list of ours -/
/-- an expression that also changes what is known -/
structure Se (G : σ → List Kn) (Gn : τ → σ → List Kn) (f : Sk → R PV) (m : M σ (PV × τ)) : Prop where
  go : ∀ s S, AtL (G s) S → ∀ r s', m s = some (r, s') → match r with
    | .ok a => ∃ S', f S = .ok a.1 S' ∧ AtL (Gn a.2 s') S'
    | .exc e => ∃ S', f S = .exc e S' ∧ AtL (G s') S'
def qPop (l : PV) : M σ (PV × PV) := mO (sPop l [])
@[simp] theorem qPop_b (l : PV) : (qPop l : M σ (PV × PV)) = mO (sPop l []) := rfl
theorem se_pop (j : Nat) {l : PV} (hj : ∀ s, (G s)[j]? = some (.o l)) : Se G (fun l' s => (G s).set j (.o l')) (mutF j agV sPop aNil) (qPop l) := by
  refine ⟨fun s S hS r s' q => ?_⟩
  obtain ⟨t, h1, h2⟩ := hS.get (hj s)
  cases h2
  have e0 : getO S j = some l := by rw [getO_ap, h1]; rfl
  cases hp : sPop l [] with
  | none => unfold qPop at q; rw [hp] at q; cases q
  | some p =>
    obtain ⟨z, c⟩ := p
    unfold qPop at q
    rw [hp] at q
    cases q
    cases l <;> first | (cases hp; done) | skip
    rename_i xs
    refine ⟨S.set j (.own c), ?_, hS.set j rfl⟩
    rw [mutF_ap, e0, kMut0_ap, aNil_ap, R.bind_ok, kMut1_ap, e0]
    show kMut2 j sPop (some (.lst xs)) (some []) S = _
    rw [kMut2_ap, hp, kMut3_ap, putO_ap, h1]
    rfl
def qPopAt (l : PV) (m : M σ PV) : M σ (PV × PV) := match l with
  | .lst xs => mB m fun i => mO (sPopAt (.lst xs) [i])
  | _ => mF
@[simp] theorem qPopAt_b (xs : List PV) (m : M σ PV) : qPopAt (.lst xs) m = mB m fun i => mO (sPopAt (.lst xs) [i]) := rfl
theorem se_popAt (j : Nat) {l : PV} {fv : Sk → R PV} {m : M σ PV} (h : SmV G fv m) (hj : ∀ s, (G s)[j]? = some (.o l)) : Se G (fun l' s => (G s).set j (.o l')) (mutF j agV sPopAt (aCons (opv fv) aNil)) (qPopAt l m) := by
  refine ⟨fun s S hS r s' q => ?_⟩
  obtain ⟨t, h1, h2⟩ := hS.get (hj s)
  cases h2
  have e0 : getO S j = some l := by rw [getO_ap, h1]; rfl
  cases l <;> first | (cases q; done) | skip
  rename_i xs
  rw [mutF_ap, e0, kMut0_ap]
  have hh := sm_acons1 h
  rcases mB_inv' (show mB m (fun i => mO (sPopAt (.lst xs) [i])) s = some (r, s') from q) with ⟨i, s1, h3, h4⟩ | ⟨x, h3, rfl⟩
  · obtain ⟨os, S1, e1, a1, rfl⟩ := hh.go s S hS _ s1 h3
    rw [e1, R.bind_ok]
    cases hp : sPopAt (.lst xs) [i] with
    | none => rw [hp] at h4; cases h4
    | some p =>
      obtain ⟨z, c⟩ := p
      rw [hp] at h4
      cases h4
      obtain ⟨t, k1, k2⟩ := a1.get (hj _)
      cases k2
      have e2 : getO S1 j = some (.lst xs) := by rw [getO_ap, k1]; rfl
      refine ⟨S1.set j (.own c), ?_, a1.set j rfl⟩
      rw [kMut1_ap, e2]
      show kMut2 j sPopAt (some (.lst xs)) (some [i]) S1 = _
      rw [kMut2_ap, hp, kMut3_ap, putO_ap, k1]
      rfl
  · obtain ⟨S1, e1, a1⟩ := hh.go s S hS _ s' h3
    rw [e1]
    exact ⟨S1, rfl, a1⟩
theorem Se.of {Gn' : τ' → σ → List Kn} {f : Sk → R PV} {m : M σ (PV × τ)} {F : PV → Sk → O} {k : PV × τ → M σ (Ct τ' β)} (h : Se G Gn f m) (hz : ∀ s, Z.P s (G s)) (hk : ∀ a t, Ss (Gn t) Z Gb Gn' (F a) (k (a, t))) : Ss G Z Gb Gn' (fun S => (f S).toO F) (mB m k) := by
  refine ⟨fun s S hS r s' e => ?_⟩
  rcases mB_inv' e with ⟨⟨a, t⟩, s1, h3, h4⟩ | ⟨x, h3, rfl⟩
  · obtain ⟨S1, e1, a1⟩ := h.go s S hS _ s1 h3
    rw [e1]
    exact (hk a t).go s1 S1 a1 r s' h4
  · obtain ⟨S1, e1, a1⟩ := h.go s S hS _ s' h3
    rw [e1]
    exact ⟨S1, rfl, G s', hz s', a1⟩
def qSetE (m : M σ (PV × τ)) : M σ (Ct (PV × τ) β) := mB m fun p => mP (.nx p)
@[simp] theorem qSetE_b (m : M σ (PV × τ)) : (qSetE m : M σ (Ct (PV × τ) β)) = mB m fun p => mP (.nx p) := rfl
theorem ss_setE {f : Sk → R PV} {m : M σ (PV × τ)} (i : Nat) (h : Se G Gn f m) (hz : ∀ s, Z.P s (G s)) (hu : ∀ t s, upAt (Gn t s) i) : Ss G Z Gb (fun (p : PV × τ) s => (Gn p.2 s).set i (.v p.1)) (setX (xV f) i) (qSetE m) := by
  have := Se.of (Z := Z) (Gb := Gb) (Gn' := fun (p : PV × τ) s => (Gn p.2 s).set i (.v p.1)) (F := fun a S1 => if unpinned S1 i = true then .nx (S1.set i (.val a)) else .stuck) (k := fun p => mP (.nx p)) h hz fun a t => ⟨fun s S hS r s' q => by
    cases q
    exact ⟨S.set i (.val a), if_pos ((hu t s).unp hS), hS.set i rfl⟩⟩
  refine ⟨fun s S hS r s' q => ?_⟩
  have e : setX (xV f) i S = (f S).toO fun a S1 => if unpinned S1 i = true then .nx (S1.set i (.val a)) else .stuck := by
    unfold setX xV
    cases f S <;> rfl
  rw [e]
  exact this.go s S hS r s' q
def qAsgE (pt : PV → Option (List PV)) (m : M σ (PV × τ)) : M σ (Ct (List PV × τ) β) := mB m fun p => mB (mO (pt p.1)) fun ys => mP (.nx (ys, p.2))
@[simp] theorem qAsgE_b (pt : PV → Option (List PV)) (m : M σ (PV × τ)) : (qAsgE pt m : M σ (Ct (List PV × τ) β)) = mB m fun p => mB (mO (pt p.1)) fun ys => mP (.nx (ys, p.2)) := rfl
theorem qasgE {f : Sk → R PV} {m : M σ (PV × τ)} {g : PV → Sk → Option Sk} {is : List Nat} {pt : PV → Option (List PV)} (h : Se G Gn f m) (tg : Tg g is pt) (hz : ∀ s, Z.P s (G s)) (hu : ∀ t s, upB (Gn t s) is = true) :
    Ss G Z Gb (fun (q : List PV × τ) s => sets (Gn q.2 s) is q.1) (asgF f g) (qAsgE pt m) := by
  refine Se.of h hz fun a t => ⟨fun s S hS r s' q => ?_⟩
  cases hp : pt a with
  | none =>
    rw [show (mB (mO (pt (a, t).1)) fun ys => (mP (.nx (ys, (a, t).2)) : M σ (Ct (List PV × τ) β))) = mF from by rw [hp]; rfl] at q
    cases q
  | some ys =>
    rw [show (mB (mO (pt (a, t).1)) fun ys => (mP (.nx (ys, (a, t).2)) : M σ (Ct (List PV × τ) β))) = mP (.nx (ys, t)) from by rw [hp]; rfl] at q
    cases q
    obtain ⟨_, S', e1, a1⟩ := tg.go _ S a ys hS (upB_of (hu t s)) hp
    exact ⟨S', by rw [e1], a1⟩
def qDoE (m : M σ (PV × τ)) : M σ (Ct τ β) := mB m fun p => mP (.nx p.2)
@[simp] theorem qDoE_b (m : M σ (PV × τ)) : (qDoE m : M σ (Ct τ β)) = mB m fun p => mP (.nx p.2) := rfl
theorem ss_exprE {f : Sk → R PV} {m : M σ (PV × τ)} (h : Se G Gn f m) (hz : ∀ s, Z.P s (G s)) : Ss G Z Gb Gn (exprF f) (qDoE m) :=
  Se.of h hz fun a t => ⟨fun s S hS r s' q => by cases q; exact ⟨S, rfl, hS⟩⟩
def qAppE (l : PV) (m : M σ (PV × τ)) : M σ (Ct (PV × τ) β) := match l with
  | .lst l => mB m fun p => mB (mO (appO (.lst l) p.1)) fun x => mP (.nx (x, p.2))
  | _ => mF
@[simp] theorem qAppE_b (l : List PV) (m : M σ (PV × τ)) : (qAppE (.lst l) m : M σ (Ct (PV × τ) β)) = mB m fun p => mB (mO (appO (.lst l) p.1)) fun x => mP (.nx (x, p.2)) := rfl
theorem qappE {f : Sk → R PV} {m : M σ (PV × τ)} (j : Nat) {l : PV} (h : Se G Gn f m) (hj : ∀ s, (G s)[j]? = some (.o l)) (hj2 : ∀ t s, (Gn t s)[j]? = some (.o l)) (hz : ∀ s, Z.P s (G s)) :
    Ss G Z Gb (fun (p : PV × τ) s => (Gn p.2 s).set j (.o p.1)) (exprF (mutF j agV sAppend (aCons (opv f) aNil))) (qAppE l m) := by
  cases l <;> first | exact ⟨fun s S hS r s' e => by cases e⟩ | skip
  rename_i l
  have := Se.of (Z := Z) (Gb := Gb) (Gn' := fun (p : PV × τ) s => (Gn p.2 s).set j (.o p.1)) (F := fun a S1 => (kMut1 j agV sAppend [OV.v a] S1).toO kExpr) (k := fun p => mB (mO (appO (.lst l) p.1)) fun x => mP (.nx (x, p.2))) h hz fun a t => ⟨fun s S hS r s' q => by
    cases ho : appO (.lst l) a with
    | none =>
      rw [show (mB (mO (appO (.lst l) (a, t).1)) fun x => (mP (.nx (x, (a, t).2)) : M σ (Ct (PV × τ) β))) = mF from by rw [ho]; rfl] at q
      cases q
    | some x =>
      rw [show (mB (mO (appO (.lst l) (a, t).1)) fun x => (mP (.nx (x, (a, t).2)) : M σ (Ct (PV × τ) β))) = mP (.nx (x, t)) from by rw [ho]; rfl] at q
      cases q
      obtain ⟨t', h1, h2⟩ := hS.get (hj2 t s)
      cases h2
      obtain ⟨p, h3, h4⟩ := Option.map_eq_some_iff.mp ho
      obtain ⟨z, c⟩ := p
      cases h4
      refine ⟨S.set j (.own c), ?_, hS.set j rfl⟩
      have e1 : getO S j = some (.lst l) := by rw [getO_ap, h1]; rfl
      have e2 : agV S [OV.v a] = some [a] := rfl
      rw [kMut1_ap, e1, e2, kMut2_ap, h3, kMut3_ap, putO_ap, h1]
      rfl⟩
  refine ⟨fun s S hS r s' q => ?_⟩
  have e : exprF (mutF j agV sAppend (aCons (opv f) aNil)) S = (f S).toO fun a S1 => (kMut1 j agV sAppend [OV.v a] S1).toO kExpr := by
    obtain ⟨t, h1, h2⟩ := hS.get (hj s)
    cases h2
    rw [exprF_ap, mutF_ap, getO_ap, h1]
    show ((aCons (opv f) aNil S).bind (kMut1 j agV sAppend)).toO kExpr = _
    unfold aCons opv aNil
    cases f S <;> rfl
  rw [e]
  exact this.go s S hS r s' q
theorem u1p {τ2 : Type} {Gn : τ' → σ → List Kn} {G : List PV × τ2 → σ → List Kn} {F : Sk → O} {k : PV → τ2 → M σ (Ct τ' β)} (h : ∀ x0 t, Ss (G ([x0], t)) Z Gb Gn F (k x0 t)) : ∀ q : List PV × τ2, Ss (G q) Z Gb Gn F (un1 (fun x0 => k x0 q.2) mF q.1) := fun (ys, t) => by
  match ys with
  | [x0] => exact h x0 t
  | [] => exact ⟨fun s S hS r s' e => by cases e⟩
  | _ :: _ :: _ => exact ⟨fun s S hS r s' e => by cases e⟩
theorem u2p {τ2 : Type} {Gn : τ' → σ → List Kn} {G : List PV × τ2 → σ → List Kn} {F : Sk → O} {k : PV → PV → τ2 → M σ (Ct τ' β)} (h : ∀ x0 x1 t, Ss (G ([x0, x1], t)) Z Gb Gn F (k x0 x1 t)) : ∀ q : List PV × τ2, Ss (G q) Z Gb Gn F (un2 (fun x0 x1 => k x0 x1 q.2) mF q.1) := fun (ys, t) => by
  match ys with
  | [x0, x1] => exact h x0 x1 t
  | [] => exact ⟨fun s S hS r s' e => by cases e⟩
  | [_] => exact ⟨fun s S hS r s' e => by cases e⟩
  | _ :: _ :: _ :: _ => exact ⟨fun s S hS r s' e => by cases e⟩
theorem u3p {τ2 : Type} {Gn : τ' → σ → List Kn} {G : List PV × τ2 → σ → List Kn} {F : Sk → O} {k : PV → PV → PV → τ2 → M σ (Ct τ' β)} (h : ∀ x0 x1 x2 t, Ss (G ([x0, x1, x2], t)) Z Gb Gn F (k x0 x1 x2 t)) : ∀ q : List PV × τ2, Ss (G q) Z Gb Gn F (un3 (fun x0 x1 x2 => k x0 x1 x2 q.2) mF q.1) := fun (ys, t) => by
  match ys with
  | [x0, x1, x2] => exact h x0 x1 x2 t
  | [] => exact ⟨fun s S hS r s' e => by cases e⟩
  | [_] => exact ⟨fun s S hS r s' e => by cases e⟩
  | [_, _] => exact ⟨fun s S hS r s' e => by cases e⟩
  | _ :: _ :: _ :: _ :: _ => exact ⟨fun s S hS r s' e => by cases e⟩
theorem u4p {τ2 : Type} {Gn : τ' → σ → List Kn} {G : List PV × τ2 → σ → List Kn} {F : Sk → O} {k : PV → PV → PV → PV → τ2 → M σ (Ct τ' β)} (h : ∀ x0 x1 x2 x3 t, Ss (G ([x0, x1, x2, x3], t)) Z Gb Gn F (k x0 x1 x2 x3 t)) : ∀ q : List PV × τ2, Ss (G q) Z Gb Gn F (un4 (fun x0 x1 x2 x3 => k x0 x1 x2 x3 q.2) mF q.1) := fun (ys, t) => by
  match ys with
  | [x0, x1, x2, x3] => exact h x0 x1 x2 x3 t
  | [] => exact ⟨fun s S hS r s' e => by cases e⟩
  | [_] => exact ⟨fun s S hS r s' e => by cases e⟩
  | [_, _] => exact ⟨fun s S hS r s' e => by cases e⟩
  | [_, _, _] => exact ⟨fun s S hS r s' e => by cases e⟩
  | _ :: _ :: _ :: _ :: _ :: _ => exact ⟨fun s S hS r s' e => by cases e⟩
end
end VL

set_option Elab.async false
set_option linter.all false
set_option autoImplicit false
set_option maxRecDepth 100000
set_option maxHeartbeats 4000000
/-! Q10: a[i] += n -/
namespace VL
open PySem L2
section
variable {σ γ τ β : Type}
def augO (l : List PV) (n : Int) : PV → Option PV
  | .int k => (augL l k n).map .lst
  | _ => none
def qAugS (l : PV) (n : Int) (m : M σ PV) : M σ (Ct PV β) := match l with
  | .lst l => mB m fun i => mB (mO (augO l n i)) fun z => mP (.nx z)
  | _ => mF
@[simp] theorem qAugS_b (l : List PV) (n : Int) (m : M σ PV) : (qAugS (.lst l) n m : M σ (Ct PV β)) = mB m fun i => mB (mO (augO l n i)) fun z => mP (.nx z) := rfl
end
def kAS (j : Nat) (n : Int) (i : PV) (S1 : Sk) : O := match getO S1 j, i with
    | some (.lst xs), .int k => (match augL xs k n with
      | some ys => .nx (putO S1 j (.lst ys))
      | none => .stuck)
    | _, _ => .stuck
theorem augStF_own {j : Nat} {fi : Sk → R PV} {n : Int} {S : Sk} {x : PV} (h : getO S j = some x) : augStF j fi n S = (fi S).toO (kAS j n) := by
  unfold augStF
  rw [h]
  rfl
section
variable {σ τ τ' β : Type} {G : σ → List Kn} {Z : Zt σ} {Gb : β → σ → List Kn}
theorem ss_augS {fi : Sk → R PV} {m : M σ PV} {n : Int} (j : Nat) {l : List PV} (h : SmV G fi m) (hj : ∀ s, (G s)[j]? = some (.o (.lst l))) (hz : ∀ s, Z.P s (G s)) :
    Ss G Z Gb (fun x s => (G s).set j (.o x)) (augStF j fi n) (mB m fun i => mB (mO (augO l n i)) fun z => mP (.nx z)) := by
  have h4 := Ss.of (Z := Z) (Gb := Gb) (Gn := fun x s => (G s).set j (.o x)) (F := kAS j n) (k := fun i => mB (mO (augO l n i)) fun z => mP (.nx z)) h hz fun a d e => by
    subst e
    refine ⟨fun s S hS r s' q => ?_⟩
    cases hp : augO l n d with
    | none => rw [hp] at q; cases q
    | some z =>
      rw [hp] at q
      cases q
      cases d <;> first | (cases hp; done) | skip
      rename_i k
      obtain ⟨w, h5, h6⟩ := Option.map_eq_some_iff.mp hp
      obtain ⟨t, h1, h2⟩ := hS.get (hj s)
      cases h2
      refine ⟨S.set j (.own z), ?_, hS.set j rfl⟩
      have e1 : getO S j = some (.lst l) := by rw [getO_ap, h1]; rfl
      unfold kAS
      rw [e1]
      dsimp only
      rw [h5]
      dsimp only
      rw [putO_ap, h1, ← h6]
      rfl
  refine ⟨fun s S hS r s' q => ?_⟩
  obtain ⟨t, h1, h2⟩ := hS.get (hj s)
  cases h2
  have e1 : getO S j = some (.lst l) := by rw [getO_ap, h1]; rfl
  rw [augStF_own e1]
  exact h4.go s S hS r s' q
theorem qaugS {fi : Sk → R PV} {m : M σ PV} {n : Int} (j : Nat) {l : PV} (h : SmV G fi m) (hj : ∀ s, (G s)[j]? = some (.o l)) (hz : ∀ s, Z.P s (G s)) :
    Ss G Z Gb (fun x s => (G s).set j (.o x)) (augStF j fi n) (qAugS l n m) := by
  cases l <;> first | exact ss_augS j h hj hz | exact ⟨fun s S hS r s' e => by cases e⟩
end
end VL

set_option Elab.async false
set_option linter.all false
set_option autoImplicit false
set_option maxRecDepth 100000
set_option maxHeartbeats 4000000
/-! L1: lots, families, what may lie: plain readings, what they tell. -/
namespace VL
open PySem L2
noncomputable def QL1_law_all_lots  (l_3 : PV) : List PV → M Unit (Ct (PV) (PV)) := un1 (fun house_5 =>
    qS (qSet (qX2 sAddX (mP l_3) (qComp (pt1) (qSeq (mP l_3)) (un1 (fun one_7 => mP true) mF) (un1 (fun one_7 => qX2 sAddX (mP one_7) (qDisp .tup (qCons (mP house_5) (qNil)))) mF))))
    (fun found_6 => mP (.nx found_6))) mF
noncomputable def QB_law_all_lots (houses_1 : PV) : M Unit (Ct Unit Unit) :=
    qS (qSet (qDisp .lst (qCons (qDisp .tup (qNil)) (qNil))))
    (fun found_2 => qS (qFor (pt1) (qSeq (mP houses_1)) (QL1_law_all_lots) found_2)
    (fun (l_3 : PV) => qRet (mP l_3)))
noncomputable def Q_law_all_lots (houses_1 : PV) : M Unit PV := qEnd false (QB_law_all_lots houses_1)
noncomputable def QB_law_within (one_1 : PV) (two_2 : PV) : M Unit (Ct Unit Unit) :=
    qRet (qOp2 sEq (qComp (pt1) (qSeq (mP one_1)) (un1 (fun house_3 => qT (qOp2 (sIn true) (mP house_3) (mP two_2))) mF) (un1 (fun house_3 => mP (.int 1)) mF)) (qDisp .lst (qNil)))
noncomputable def Q_law_within (one_1 : PV) (two_2 : PV) : M Unit PV := qEnd false (QB_law_within one_1 two_2)
noncomputable def QB_law_greatest (lots_1 : PV) : M Unit (Ct Unit Unit) :=
    qS (qSet (qOpA sSortedSet (qCons (mP lots_1) (qNil))))
    (fun unlike_2 => qRet (qOpA sTuple (qCons (qComp (pt1) (qSeq (mP unlike_2)) (un1 (fun one_3 => qT (qOp2 sEq (qComp (pt1) (qSeq (mP unlike_2)) (un1 (fun two_4 => qIf (qT (qOp2 sNe (mP one_3) (mP two_4))) (qT (qCall (un2 Q_law_within mF) (qCons (mP one_3) (qCons (mP two_4) (qNil))))) (mP false)) mF) (un1 (fun two_4 => mP (.int 1)) mF)) (qDisp .lst (qNil)))) mF) (un1 (fun one_3 => mP one_3) mF)) (qNil))))
noncomputable def Q_law_greatest (lots_1 : PV) : M Unit PV := qEnd false (QB_law_greatest lots_1)
noncomputable def QB_law_drawn_lot (houses_1 : PV) (part_2 : PV) : M PV (Ct Unit Unit) :=
    qRet (qOpA sTuple (qCons (qComp (pt1) (qSeq (mP houses_1)) (un1 (fun house_3 => qT (qOp2 sEq (qCallB (un1 Q_law_take mF) (qCons (mP part_2) (qNil))) (mP (.int 0)))) mF) (un1 (fun house_3 => mP house_3) mF)) (qNil)))
noncomputable def Q_law_drawn_lot (houses_1 : PV) (part_2 : PV) : M PV PV := qEnd false (QB_law_drawn_lot houses_1 part_2)
noncomputable def QB_law_pick (some_1 : PV) : M PV (Ct Unit Unit) :=
    qRet (qOp2 sIx (mP some_1) (qCallB (un1 Q_law_take mF) (qCons (qOpA sLen (qCons (mP some_1) (qNil))) (qNil))))
noncomputable def Q_law_pick (some_1 : PV) : M PV PV := qEnd false (QB_law_pick some_1)
noncomputable def QL1_law_liars (psize_12 : PV) (l_8 : PV) : List PV → M PV (Ct (PV) (PV)) := un1 (fun house_13 =>
    qS (qSet (qX2 sAddX (mP l_8) (qComp (pt1) (qSeq (mP l_8)) (un1 (fun one_15 => qT (qOp2 (sOrd .Lt) (qOpA sLen (qCons (mP one_15) (qNil))) (mP psize_12))) mF) (un1 (fun one_15 => qX2 sAddX (mP one_15) (qDisp .tup (qCons (mP house_13) (qNil)))) mF))))
    (fun found_14 => mP (.nx found_14))) mF
noncomputable def QB_law_liars (many_1 : PV) : M PV (Ct Unit Unit) :=
    qS (qAsg (ptTup (ptCons (pt1) (ptCons (pt1) (ptNil)))) (qDisp .tup (qCons (qOp1 sTupRg1 (mP many_1)) (qCons (qCallB (un1 Q_law_take mF) (qCons (mP (.int 8)) (qNil))) (qNil)))))
    (un2 (fun houses_2 way_3 => qS (qIf (qT (qOp2 sEq (mP way_3) (mP (.int 0)))) (qRet (qDisp .tup (qCons (qDisp .tup (qNil)) (qNil)))) (mP (.nx ())))
    (fun (_ : Unit) => qS (qIf (qT (qOp2 (sOrd .Lt) (mP way_3) (mP (.int 3)))) (qS (qSet (qCallB (un1 Q_law_take mF) (qCons (qX2 sAddX (mP many_1) (mP (.int 1))) (qNil))))
    (fun size_6 => qS (qSet (qDisp .lst (qCons (qDisp .tup (qNil)) (qNil))))
    (fun found_7 => qS (qFor (pt1) (qSeq (mP houses_2)) (QL1_law_liars size_6) found_7)
    (fun (l_8 : PV) => qRet (qCall (un1 Q_law_greatest mF) (qCons (qSl (qComp (pt1) (qSeq (mP l_8)) (un1 (fun one_16 => qT (qOp2 sEq (qOpA sLen (qCons (mP one_16) (qNil))) (mP size_6))) mF) (un1 (fun one_16 => mP one_16) mF)) (mP none) (qI (mP (.int 40)))) (qNil))))))) (mP (.nx ())))
    (fun (_ : Unit) => qS (qSet (qComp (pt1) (qArg sRng1 (qCons (qX2 sAddX (mP (.int 1)) (qCallB (un1 Q_law_take mF) (qCons (mP (.int 5)) (qNil)))) (qNil))) (un1 (fun turn_18 => mP true) mF) (un1 (fun turn_18 => qCallB (un2 Q_law_drawn_lot mF) (qCons (mP houses_2) (qCons (qCallB (un1 Q_law_pick mF) (qCons (qDisp .lst (qCons (mP (.int 2)) (qCons (mP (.int 3)) (qCons (mP (.int 4)) (qNil))))) (qNil))) (qNil)))) mF)))
    (fun lots_17 => qRet (qCall (un1 Q_law_greatest mF) (qCons (mP lots_17) (qNil))))))) mF)
noncomputable def Q_law_liars (many_1 : PV) : M PV PV := qEnd false (QB_law_liars many_1)
noncomputable def QB_law_may (liars_1 : PV) (lot_2 : PV) : M Unit (Ct Unit Unit) :=
    qRet (qOp2 sNe (qComp (pt1) (qSeq (mP liars_1)) (un1 (fun one_3 => qT (qCall (un2 Q_law_within mF) (qCons (mP lot_2) (qCons (mP one_3) (qNil))))) mF) (un1 (fun one_3 => mP (.int 1)) mF)) (qDisp .lst (qNil)))
noncomputable def Q_law_may (liars_1 : PV) (lot_2 : PV) : M Unit PV := qEnd false (QB_law_may liars_1 lot_2)
noncomputable def QL1_lots_within0  (l_3 : PV) : List PV → M Unit (Ct (PV) (PV)) := un1 (fun house_5 =>
    qS (qSet (qX2 sAddX (mP l_3) (qComp (pt1) (qSeq (mP l_3)) (un1 (fun one_7 => mP true) mF) (un1 (fun one_7 => qX2 sAddX (mP one_7) (qDisp .tup (qCons (mP house_5) (qNil)))) mF))))
    (fun found_6 => mP (.nx found_6))) mF
noncomputable def QB_lots_within0 (lot_1 : PV) : M Unit (Ct Unit Unit) :=
    qS (qSet (qDisp .lst (qCons (qDisp .tup (qNil)) (qNil))))
    (fun found_2 => qS (qFor (pt1) (qSeq (mP lot_1)) (QL1_lots_within0) found_2)
    (fun (l_3 : PV) => qRet (mP l_3)))
noncomputable def Q_lots_within0 (lot_1 : PV) : M Unit PV := qEnd false (QB_lots_within0 lot_1)
noncomputable def QB_is_within0 (one_1 : PV) (two_2 : PV) : M Unit (Ct Unit Unit) :=
    qRet (qOpA sAll (qCons (qComp (pt1) (qSeq (mP one_1)) (un1 (fun house_3 => mP true) mF) (un1 (fun house_3 => qOp2 (sIn false) (mP house_3) (mP two_2)) mF)) (qNil)))
noncomputable def Q_is_within0 (one_1 : PV) (two_2 : PV) : M Unit PV := qEnd false (QB_is_within0 one_1 two_2)
noncomputable def QB_greatest_lots0 (lots_1 : PV) : M Unit (Ct Unit Unit) :=
    qS (qSet (qOpA sSortedSet (qCons (mP lots_1) (qNil))))
    (fun unlike_2 => qRet (qOpA sTuple (qCons (qComp (pt1) (qSeq (mP unlike_2)) (un1 (fun lot_3 => qN (qT (qOpA sAny (qCons (qComp (pt1) (qSeq (mP unlike_2)) (un1 (fun one_4 => mP true) mF) (un1 (fun one_4 => qAnd (qOp2 sNe (mP one_4) (mP lot_3)) (qCall (un2 Q_is_within0 mF) (qCons (mP lot_3) (qCons (mP one_4) (qNil))))) mF)) (qNil))))) mF) (un1 (fun lot_3 => mP lot_3) mF)) (qNil))))
noncomputable def Q_greatest_lots0 (lots_1 : PV) : M Unit PV := qEnd false (QB_greatest_lots0 lots_1)
noncomputable def QB_may_lie0 (liars_1 : PV) (lot_2 : PV) : M Unit (Ct Unit Unit) :=
    qRet (qOpA sAny (qCons (qComp (pt1) (qSeq (mP liars_1)) (un1 (fun one_3 => mP true) mF) (un1 (fun one_3 => qCall (un2 Q_is_within0 mF) (qCons (mP lot_2) (qCons (mP one_3) (qNil)))) mF)) (qNil)))
noncomputable def Q_may_lie0 (liars_1 : PV) (lot_2 : PV) : M Unit PV := qEnd false (QB_may_lie0 liars_1 lot_2)
def subI (a b : List Int) : Bool := a.all fun i => decide (i ∈ b)
theorem ones_map {α : Type} (l : List α) : l.map (fun _ => PV.int 1) = (l.map fun _ => (1 : Int)).map .int := by rw [List.map_map]; rfl
@[simp] theorem sEq_ones {α : Type} (l : List α) : sEq (.lst (l.map fun _ => PV.int 1)) (.lst []) = some (.bl l.isEmpty) := by
  rw [ones_map, sEq_nilI]; cases l <;> rfl
@[simp] theorem sNe_ones {α : Type} (l : List α) : sNe (.lst (l.map fun _ => PV.int 1)) (.lst []) = some (.bl (!l.isEmpty)) := by
  rw [ones_map, sNe_nilI]; cases l <;> rfl
theorem sub_filter (a b : List Int) : (a.filter fun i => !decide (i ∈ b)).isEmpty = subI a b := by
  unfold subI
  induction a with
  | nil => rfl
  | cons i a ih =>
    by_cases h : i ∈ b
    · rw [List.filter_cons_of_neg (by simp [h]), List.all_cons, decide_eq_true h, Bool.true_and]
      exact ih
    · rw [List.filter_cons_of_pos (by simp [h]), List.all_cons, decide_eq_false h]
      rfl
theorem any_filter {α : Type} (l : List α) (p : α → Bool) : (!(l.filter p).isEmpty) = l.any p := by
  induction l with
  | nil => rfl
  | cons x l ih =>
    by_cases h : p x = true
    · rw [List.filter_cons_of_pos h, List.any_cons, h]
      rfl
    · rw [List.filter_cons_of_neg h, List.any_cons, ih, Bool.eq_false_iff.mpr h, Bool.false_or]
theorem Q_within (a b : List Int) (hl : a.length ≤ 16777216) : Q_law_within (tupI a) (tupI b) = mP (.bl (subI a b)) := by
  unfold Q_law_within QB_law_within
  simp [sIn_tupI, short_ok, hl]
  rw [sub_filter]
theorem Q_is_within (a b : List Int) (hl : a.length ≤ 16777216) : Q_is_within0 (tupI a) (tupI b) = mP (.bl (subI a b)) := by
  unfold Q_is_within0 QB_is_within0
  simp [sIn_tupI, short_ok, hl, sAll_map, subI]
/-- lots: tuples of tuples of ints -/
abbrev lotsP (ks : List (List Int)) : PV := .tup (ks.map tupI)
abbrev lotsL (ks : List (List Int)) : PV := .lst (ks.map tupI)
def mayB (ks : List (List Int)) (b : List Int) : Bool := ks.any fun k => subI b k
theorem Q_may (ks : List (List Int)) (b : List Int) (hb : b.length ≤ 16777216) (hl : ks.length ≤ 16777216) : Q_law_may (lotsP ks) (tupI b) = mP (.bl (mayB ks b)) := by
  unfold Q_law_may QB_law_may
  simp [short_ok, hl, Q_within b _ hb, any_filter, mayB]
theorem Q_may_lie (ks : List (List Int)) (b : List Int) (hb : b.length ≤ 16777216) (hl : ks.length ≤ 16777216) : Q_may_lie0 (lotsP ks) (tupI b) = mP (.bl (mayB ks b)) := by
  unfold Q_may_lie0 QB_may_lie0
  simp [short_ok, hl, Q_is_within b _ hb, sAny_map, mayB]
theorem flatsP_map : ∀ ks : List (List Int), flatsP (ks.map tupI) = some ks
  | [] => rfl
  | k :: ks => by
    have e : flatP (tupI k) = some k := intsOf_map k
    show (match flatP (tupI k), flatsP (ks.map tupI) with
      | some k, some ks => some (k :: ks)
      | _, _ => none) = _
    rw [e, flatsP_map ks]
theorem lex_some (n : Nat) (z : Bool) : ∀ a b : List Int, (lexP (ordP .Lt n) z (a.map .int) (b.map .int)).isSome = true
  | [], _ => by simp [lexP]
  | _ :: _, [] => by simp [lexP]
  | i :: a, j :: b => by
    have ih := lex_some n z a b
    show (lexP (ordP .Lt n) z (.int i :: a.map .int) (.int j :: b.map .int)).isSome = true
    obtain ⟨c, hc⟩ := Option.isSome_iff_exists.mp ih
    unfold lexP
    rw [hc]
    dsimp only
    split
    · rfl
    · cases n <;> rfl
theorem tupsOk_flat (ks : List (List Int)) : tupsOk (ks.map tupI) = true := by
  unfold tupsOk cmpAll
  simp only [Bool.and_eq_true, Bool.or_eq_true, List.all_eq_true, List.any_eq_true, List.mem_map]
  refine ⟨fun x ⟨k, _, e⟩ => by rw [← e]; rfl, fun x ⟨k, _, e⟩ => by rw [← e]; exact pure_tupI k, fun x ⟨k, _, e⟩ => by rw [← e]; exact pOk_tupI k, fun x ⟨k, _, e⟩ y ⟨j, _, e'⟩ => ?_, ?_⟩
  · rw [← e, ← e']
    exact lex_some 7 _ k j
  · by_cases h : [] ∈ ks
    · exact .inr (.inr ⟨tupI [], ⟨[], h, rfl⟩, rfl⟩)
    · refine .inl fun x ⟨k, hk, e⟩ => ?_
      rw [← e]
      cases k with
      | nil => exact absurd hk h
      | cons i k => rfl
theorem srt_flat (ks : List (List Int)) : ∃ us : List (List Int), srtP (ks.map tupI) = us.map tupI ∧ (∀ k, k ∈ us ↔ k ∈ ks) ∧ us.length = ks.length := by
  have go : ∀ xs : List PV, (∀ x ∈ xs, ∃ k ∈ ks, x = tupI k) → ∃ us : List (List Int), xs = us.map tupI ∧ ∀ k ∈ us, k ∈ ks := by
    intro xs
    induction xs with
    | nil => intro _; exact ⟨[], rfl, fun k hk => by cases hk⟩
    | cons x xs ih =>
      intro h
      obtain ⟨k, hk, e⟩ := h x List.mem_cons_self
      obtain ⟨us, e1, e2⟩ := ih fun y hy => h y (List.mem_cons_of_mem _ hy)
      refine ⟨k :: us, by rw [e, e1]; rfl, fun j hj => ?_⟩
      rcases List.mem_cons.mp hj with hj | hj
      · rw [hj]; exact hk
      · exact e2 j hj
  have pm := srtP_perm (ks.map tupI)
  obtain ⟨us, e1, e2⟩ := go _ fun x hx => by
    obtain ⟨k, hk, e⟩ := List.mem_map.mp (pm.mem_iff.mp hx)
    exact ⟨k, hk, e.symm⟩
  refine ⟨us, e1, fun k => ⟨e2 k, fun hk => ?_⟩, ?_⟩
  · have : tupI k ∈ us.map tupI := by rw [← e1]; exact pm.mem_iff.mpr (List.mem_map.mpr ⟨k, hk, rfl⟩)
    obtain ⟨j, hj, e⟩ := List.mem_map.mp this
    rw [← tupI_inj e]
    exact hj
  · have := pm.length_eq
    rw [e1, List.length_map, List.length_map] at this
    exact this
theorem nubK_len : ∀ ks : List (List Int), (nubK ks).length ≤ ks.length
  | [] => Nat.le_refl 0
  | k :: ks => by
    unfold nubK
    have := nubK_len ks
    split
    · exact Nat.le_succ_of_le this
    · exact Nat.succ_le_succ this
/-- is there a greater one? -/
def below (us : List (List Int)) (k : List Int) : Bool := us.any fun j => !decide (k = j) && subI k j
/-- the unlike ones, ascending -/
noncomputable def srtK (ks : List (List Int)) : List (List Int) := Classical.choose (srt_flat (nubK ks))
theorem srtK_eq (ks : List (List Int)) : srtP ((nubK ks).map tupI) = (srtK ks).map tupI := (Classical.choose_spec (srt_flat (nubK ks))).1
theorem srtK_mem (ks : List (List Int)) (k : List Int) : k ∈ srtK ks ↔ k ∈ ks := by
  have := (Classical.choose_spec (srt_flat (nubK ks))).2.1 k
  unfold srtK
  rw [this, nubK_mem]
theorem srtK_len (ks : List (List Int)) : (srtK ks).length ≤ ks.length := by
  have := (Classical.choose_spec (srt_flat (nubK ks))).2.2
  have h2 := nubK_len ks
  unfold srtK
  omega
theorem sSet_lots (ks : List (List Int)) (hl : ks.length < 64) : sSortedSet [lotsL ks] = some (lotsL (srtK ks)) := by
  show (match flatsP (ks.map tupI) with
    | some ks => if ks.length < 64 ∧ tupsOk ((nubK ks).map tupI) = true then some (PV.lst (srtP ((nubK ks).map tupI))) else none
    | none => none) = _
  rw [flatsP_map]
  show (if ks.length < 64 ∧ tupsOk ((nubK ks).map tupI) = true then some (PV.lst (srtP ((nubK ks).map tupI))) else none) = _
  rw [if_pos ⟨hl, tupsOk_flat _⟩, srtK_eq]
/-- the greatest of some lots -/
noncomputable def grt (ks : List (List Int)) : List (List Int) := (srtK ks).filter fun k => !below (srtK ks) k
@[simp] theorem sTuple_l (xs : List PV) : sTuple [.lst xs] = some (.tup xs) := rfl
theorem Q_greatest (ks : List (List Int)) (hl : ks.length < 64) (hs : ∀ k ∈ ks, k.length ≤ 16777216) : Q_law_greatest (lotsL ks) = mP (lotsP (grt ks)) := by
  have hu := srtK_len ks
  have hm : ∀ k ∈ srtK ks, k.length ≤ 16777216 := fun k hk => hs k ((srtK_mem ks k).mp hk)
  unfold Q_law_greatest QB_law_greatest
  simp [sSet_lots ks hl, short_ok, show (srtK ks).length ≤ 16777216 by omega]
  have inner : ∀ k ∈ srtK ks, (compQ (fun j => mB (mO (sNe (tupI k) (tupI j))) fun x => mB (isB x) fun b => if b = true then mB (mL (Q_law_within (tupI k) (tupI j))) isB else mP false) (fun _ => mP (PV.int 1)) (srtK ks) : M Unit (List PV)) = mP (((srtK ks).filter fun j => !decide (k = j) && subI k j).map fun _ => .int 1) := fun k hk =>
    compQ_eq _ _ _ (fun j hj => by
      rw [sNe_tupI, Q_within k j (hm k hk)]
      by_cases e : k = j <;> simp [e]) (fun _ _ _ => rfl)
  rw [compQ_eq (fun k => !below (srtK ks) k) tupI (srtK ks) (fun k hk => by
    rw [inner k hk]
    have := any_filter (srtK ks) fun j => !decide (k = j) && subI k j
    simp [below, ← this]) (fun _ _ _ => rfl)]
  simp [grt]
theorem Q_greatest_lots (ks : List (List Int)) (hl : ks.length < 64) (hs : ∀ k ∈ ks, k.length ≤ 16777216) : Q_greatest_lots0 (lotsL ks) = mP (lotsP (grt ks)) := by
  have hu := srtK_len ks
  have hm : ∀ k ∈ srtK ks, k.length ≤ 16777216 := fun k hk => hs k ((srtK_mem ks k).mp hk)
  unfold Q_greatest_lots0 QB_greatest_lots0
  simp [sSet_lots ks hl, short_ok, show (srtK ks).length ≤ 16777216 by omega]
  have inner : ∀ k ∈ srtK ks, (compQ (fun _ => mP true) (fun j => mB (mO (sNe (tupI j) (tupI k))) fun x => mB (isB x) fun b => if b = true then mL (Q_is_within0 (tupI k) (tupI j)) else mP (PV.bl false)) (srtK ks) : M Unit (List PV)) = mP ((srtK ks).map fun j => .bl (!decide (j = k) && subI k j)) := fun k hk =>
    compQ_all _ _ (fun j hj => by
      rw [sNe_tupI, Q_is_within k j (hm k hk)]
      by_cases e : j = k <;> simp [e])
  rw [compQ_eq (fun k => !below (srtK ks) k) tupI (srtK ks) (fun k hk => by
    rw [inner k hk]
    have e : below (srtK ks) k = (srtK ks).any fun j => !decide (j = k) && subI k j := by
      unfold below
      congr 1
      funext j
      congr 2
      exact decide_eq_decide.mpr ⟨fun h => h.symm, fun h => h.symm⟩
    simp [e, sAny_map]) (fun _ _ _ => rfl)]
  simp [grt]
/-! ### draws -/
theorem atI_get {α : Type} {xs : List α} {i : Int} (h0 : 0 ≤ i) (h1 : i < xs.length) : ∃ x, atI xs i = some x ∧ x ∈ xs := by
  obtain ⟨x, hx⟩ := atI_in (l := xs) h0 h1
  refine ⟨x, hx, ?_⟩
  unfold atI at hx
  obtain ⟨j, _, hj⟩ := Option.bind_eq_some_iff.mp hx
  exact List.mem_of_getElem? hj
theorem Dr.pickL {xs : List PV} (h0 : 0 < xs.length) (h1 : xs.length ≤ 16777216) : Dr (Q_law_pick (.lst xs)) fun x => x ∈ xs := by
  unfold Q_law_pick QB_law_pick
  simp
  refine Dr.b (Dr.take (by omega) (by omega)) ?_
  rintro _ ⟨r, rfl, h2, h3⟩
  obtain ⟨x, hx, hm⟩ := atI_get h2 h3
  have hi : sIx (.lst xs) (.int r) = some x := hx
  simp [hi]
  exact Dr.p hm
theorem Dr.pickT {xs : List PV} (h0 : 0 < xs.length) (h1 : xs.length ≤ 16777216) : Dr (Q_law_pick (.tup xs)) fun x => x ∈ xs := by
  unfold Q_law_pick QB_law_pick
  simp
  refine Dr.b (Dr.take (by omega) (by omega)) ?_
  rintro _ ⟨r, rfl, h2, h3⟩
  obtain ⟨x, hx, hm⟩ := atI_get h2 h3
  have hi : sIx (.tup xs) (.int r) = some x := hx
  simp [hi]
  exact Dr.p hm
theorem sub_ints {zs : List PV} {hs : List Int} (h : zs.Sublist (hs.map .int)) : ∃ ks : List Int, zs = ks.map .int ∧ ks.Sublist hs := by
  obtain ⟨ks, h1, h2⟩ := List.sublist_map_iff.mp h
  exact ⟨ks, h2, h1⟩
theorem drawn_aux (c : PV → M PV Bool) (hs : List Int) (hc : ∀ i ∈ hs, Dr (c (.int i)) fun _ => True) : Dr (compQ (fun a => c (.int a)) (fun a => mP (PV.int a)) hs) fun ys => ∃ ks : List Int, ys = ks.map .int ∧ ks.Sublist hs := Dr.cf _ hs hc
theorem Dr.drawnT {hs : List Int} {m : Int} (hm : 0 < m) (hl : m < 1000) (hh : hs.length ≤ 16777216) : Dr (Q_law_drawn_lot (tupI hs) (.int m)) fun x => ∃ ks : List Int, x = tupI ks ∧ ks.Sublist hs := by
  unfold Q_law_drawn_lot QB_law_drawn_lot
  simp [short_ok, hh]
  refine Dr.b (Dr.k (Dr.cf _ hs fun i hi => ?_)) ?_
  · refine Dr.b (Dr.take hm (by omega)) ?_
    rintro _ ⟨r, rfl, _, _⟩
    simp
    exact Dr.p trivial
  · rintro _ ⟨ks, rfl, hk⟩
    exact Dr.p ⟨ks, rfl, hk⟩
theorem Dr.drawnL {hs : List Int} {m : Int} (hm : 0 < m) (hl : m < 1000) (hh : hs.length ≤ 16777216) : Dr (Q_law_drawn_lot (.lst (hs.map .int)) (.int m)) fun x => ∃ ks : List Int, x = tupI ks ∧ ks.Sublist hs := by
  unfold Q_law_drawn_lot QB_law_drawn_lot
  simp [short_ok, hh]
  refine Dr.b (Dr.k (Dr.cf _ hs fun i hi => ?_)) ?_
  · refine Dr.b (Dr.take hm (by omega)) ?_
    rintro _ ⟨r, rfl, _, _⟩
    simp
    exact Dr.p trivial
  · rintro _ ⟨ks, rfl, hk⟩
    exact Dr.p ⟨ks, rfl, hk⟩
abbrev IncL (k : List Int) : Prop := k.Pairwise (· < ·)
theorem sub_sublist : ∀ (j k : List Int), IncL k → IncL j → (∀ i ∈ k, i ∈ j) → k.Sublist j
  | [], k, _, _, h => by
    cases k with
    | nil => exact .slnil
    | cons a k => exact absurd (h a List.mem_cons_self) (by simp)
  | b :: j, [], _, _, _ => List.nil_sublist _
  | b :: j, a :: k, hk, hj, h => by
    obtain ⟨k1, k2⟩ := List.pairwise_cons.mp hk
    obtain ⟨j1, j2⟩ := List.pairwise_cons.mp hj
    by_cases e : a = b
    · subst e
      refine .cons₂ a (sub_sublist j k k2 j2 fun i hi => ?_)
      rcases List.mem_cons.mp (h i (List.mem_cons_of_mem _ hi)) with z | z
      · have := k1 i hi
        omega
      · exact z
    · have ha : a ∈ j := by
        rcases List.mem_cons.mp (h a List.mem_cons_self) with z | z
        · exact absurd z e
        · exact z
      have hb := j1 a ha
      refine .cons b (sub_sublist j (a :: k) hk j2 fun i hi => ?_)
      rcases List.mem_cons.mp (h i hi) with z | z
      · rcases List.mem_cons.mp hi with w | w
        · omega
        · have := k1 i w
          omega
      · exact z
theorem longest : ∀ (us : List (List Int)), us ≠ [] → ∃ k ∈ us, ∀ j ∈ us, j.length ≤ k.length
  | [], h => absurd rfl h
  | [k], _ => ⟨k, List.mem_cons_self, fun j hj => by rw [List.mem_singleton.mp hj]; exact Nat.le_refl _⟩
  | k :: l :: us, _ => by
    obtain ⟨m, h1, h2⟩ := longest (l :: us) (by simp)
    by_cases h : m.length ≤ k.length
    · refine ⟨k, List.mem_cons_self, fun j hj => ?_⟩
      rcases List.mem_cons.mp hj with z | z
      · rw [z]; exact Nat.le_refl _
      · exact Nat.le_trans (h2 j z) h
    · refine ⟨m, List.mem_cons_of_mem _ h1, fun j hj => ?_⟩
      rcases List.mem_cons.mp hj with z | z
      · rw [z]; omega
      · exact h2 j z
theorem tops_ne {us : List (List Int)} (h : us ≠ []) (hi : ∀ k ∈ us, IncL k) : (us.filter fun k => !below us k) ≠ [] := by
  obtain ⟨k, h1, h2⟩ := longest us h
  intro e
  have : k ∈ us.filter fun k => !below us k := by
    refine List.mem_filter.mpr ⟨h1, ?_⟩
    cases hb : below us k with
    | false => rfl
    | true =>
      unfold below at hb
      obtain ⟨j, hj, hp⟩ := List.any_eq_true.mp hb
      rw [Bool.and_eq_true] at hp
      have hne : ¬ k = j := by simpa using hp.1
      have hs : ∀ i ∈ k, i ∈ j := fun i hi => by
        have := List.all_eq_true.mp hp.2 i hi
        simpa using this
      have sl := sub_sublist j k (hi k h1) (hi j hj) hs
      exact absurd (sl.eq_of_length_le (h2 j hj)) hne
  rw [e] at this
  cases this
/-- the houses -/
def hsI (m : Nat) : List Int := (List.range m).map fun (i : Nat) => (i : Int)
theorem rngP_hsI (m : Nat) : rngP 0 m = (hsI m).map .int := by
  unfold rngP hsI
  rw [List.map_map]
  congr 1
  funext i
  show PV.int (0 + (i : Int)) = PV.int i
  rw [Int.zero_add]
theorem hsI_inc (m : Nat) : IncL (hsI m) := List.pairwise_map.mpr (List.pairwise_lt_range.imp fun h => by omega)
theorem hsI_len (m : Nat) : (hsI m).length = m := by unfold hsI; rw [List.length_map, List.length_range]
theorem hsI_succ (m : Nat) : hsI (m + 1) = hsI m ++ [(m : Int)] := by unfold hsI; rw [List.range_succ, List.map_append]; rfl
/-- what liars are: some lots, none empty of them, each of houses that rise -/
structure Lots (m : Nat) (ks : List (List Int)) : Prop where
  ne : ks ≠ []
  few : ks.length < 64
  sub : ∀ k ∈ ks, k.Sublist (hsI m)
theorem Lots.inc {m : Nat} {ks : List (List Int)} (L : Lots m ks) : ∀ k ∈ ks, IncL k := fun k hk => (hsI_inc m).sublist (L.sub k hk)
theorem Lots.len {m : Nat} {ks : List (List Int)} (L : Lots m ks) : ∀ k ∈ ks, k.length ≤ m := fun k hk => by
  have := (L.sub k hk).length_le
  rw [hsI_len] at this
  exact this
theorem grt_mem {ks : List (List Int)} {k : List Int} (h : k ∈ grt ks) : k ∈ ks := (srtK_mem ks k).mp (List.mem_filter.mp h).1
theorem grt_lots {m : Nat} {ks : List (List Int)} (L : Lots m ks) : Lots m (grt ks) := by
  refine ⟨tops_ne (fun e => ?_) fun k hk => L.inc k ((srtK_mem ks k).mp hk), ?_, fun k hk => L.sub k (grt_mem hk)⟩
  · obtain ⟨k, hk⟩ := List.exists_mem_of_ne_nil _ L.ne
    have := (srtK_mem ks k).mpr hk
    rw [e] at this
    cases this
  · have h1 := srtK_len ks
    have h2 := List.length_filter_le (fun k => !below (srtK ks) k) (srtK ks)
    have h3 := L.few
    show ((srtK ks).filter fun k => !below (srtK ks) k).length < 64
    omega
theorem Q_grt {m : Nat} {ks : List (List Int)} (L : Lots m ks) (hm : m ≤ 1000) : Q_law_greatest (lotsL ks) = mP (lotsP (grt ks)) := Q_greatest ks L.few fun k hk => by
  have := L.len k hk
  omega
theorem Q_grt' {m : Nat} {ks : List (List Int)} (L : Lots m ks) (hm : m ≤ 1000) : Q_greatest_lots0 (lotsL ks) = mP (lotsP (grt ks)) := Q_greatest_lots ks L.few fun k hk => by
  have := L.len k hk
  omega
/-- one more house -/
def stepL (z : Int) (h : Int) (fs : List (List Int)) : List (List Int) := fs ++ (fs.filter fun k => decide ((k.length : Int) < z)).map fun k => k ++ [h]
theorem lst_add (fs gs : List (List Int)) (h : fs.length + gs.length ≤ 16777216) : sAddX (.lst (fs.map tupI)) (.lst (gs.map tupI)) = some (.l (.lst ((fs ++ gs).map tupI))) := by
  show (sAddL (.lst (fs.map tupI)) (.lst (gs.map tupI))).map RV.l = _
  unfold sAddL
  simp [h]
theorem tup_add (k : List Int) (h : Int) (hk : k.length + 1 ≤ 16777216) : sAddX (tupI k) (.tup [.int h]) = some (.v (tupI (k ++ [h]))) := by
  show (sAdd (tupI k) (.tup [.int h])).map RV.v = _
  unfold sAdd
  simp [hk]
structure Grow (z : Int) (t : Nat) (fs : List (List Int)) : Prop where
  len : fs.length ≤ 2 ^ t
  sub : ∀ k ∈ fs, k.Sublist (hsI t)
  has : ∀ s : Nat, s ≤ t → (s : Int) ≤ z → hsI s ∈ fs
theorem grow_step {z : Int} {t : Nat} {fs : List (List Int)} (G : Grow z t fs) : Grow z (t + 1) (stepL z t fs) := by
  refine ⟨?_, fun k hk => ?_, fun s hs hz => ?_⟩
  · unfold stepL
    rw [List.length_append, List.length_map, Nat.pow_succ]
    have := List.length_filter_le (fun k : List Int => decide ((k.length : Int) < z)) fs
    have := G.len
    omega
  · rw [hsI_succ]
    rcases List.mem_append.mp hk with h | h
    · exact (G.sub k h).trans (List.sublist_append_left _ _)
    · obtain ⟨j, hj, e⟩ := List.mem_map.mp h
      rw [← e]
      exact (G.sub j (List.mem_filter.mp hj).1).append (List.Sublist.refl _)
  · by_cases h : s ≤ t
    · exact List.mem_append_left _ (G.has s h hz)
    · have e : s = t + 1 := by omega
      subst e
      rw [hsI_succ]
      refine List.mem_append_right _ (List.mem_map.mpr ⟨hsI t, List.mem_filter.mpr ⟨G.has t (Nat.le_refl _) (by omega), ?_⟩, rfl⟩)
      rw [hsI_len, decide_eq_true_eq]
      omega
theorem cut40 (xs : List PV) : cutP xs none (some 40) = xs.take 40 := by
  unfold cutP
  have e0 : HT.sIx xs.length 0 none = 0 := rfl
  rw [e0, List.drop_zero, Nat.sub_zero]
  have e1 : HT.sIx xs.length xs.length (some 40) = min 40 xs.length := by
    unfold HT.sIx
    simp
    try omega
  rw [e1]
  by_cases h : 40 ≤ xs.length
  · rw [Nat.min_eq_left h]
  · rw [Nat.min_eq_right (by omega), List.take_length, List.take_of_length_le (by omega)]
theorem sTupRg_ok {m : Nat} (hm : m ≤ 1000000) : sTupRg1 (.int (m : Int)) = some (tupI (hsI m)) := by
  show (if rgOkB 0 (m : Int) then some (PV.tup (rngP 0 (m : Int).toNat)) else none) = _
  rw [if_pos ⟨by omega, by omega, by omega, by omega, by omega⟩, Int.toNat_natCast, rngP_hsI]
theorem sLstRg_ok {m : Nat} (hm : m ≤ 1000000) : sLstRg1 (.int (m : Int)) = some (.lst ((hsI m).map .int)) := by
  show (if rgOkB 0 (m : Int) then some (PV.lst (rngP 0 (m : Int).toNat)) else none) = _
  rw [if_pos ⟨by omega, by omega, by omega, by omega, by omega⟩, Int.toNat_natCast, rngP_hsI]
theorem sRng_ok {j : Int} (h0 : 0 ≤ j) (h1 : j ≤ 1000000) : sRng1 [.int j] = some ((hsI j.toNat).map .int) := by
  rw [← rngP_hsI]
  exact if_pos ⟨by omega, by omega⟩
theorem sRng_nat {n : Nat} (h : n ≤ 1000000) : sRng1 [.int (n : Int)] = some ((hsI n).map .int) := by
  rw [sRng_ok (by omega) (by omega), Int.toNat_natCast]
theorem stepL_run (z h : Int) (fs : List (List Int)) (hf : fs.length ≤ 1000000) (hk : ∀ k ∈ fs, k.length ≤ 1000000) : (QL1_law_liars (.int z) (lotsL fs) [.int h] : M PV (Ct PV PV)) = mP (.nx (lotsL (stepL z h fs))) := by
  unfold QL1_law_liars
  simp -implicitDefEqProofs [short_ok, show fs.length ≤ 16777216 by omega]
  rw [compQ_eq (fun k => decide ((k.length : Int) < z)) (fun k => tupI (k ++ [h])) fs (fun _ _ => rfl) (fun k hkk _ => by
    rw [tup_add k h (by have := hk k hkk; omega)]
    rfl)]
  have e2 : (fs.filter fun k => decide ((k.length : Int) < z)).map (fun k => tupI (k ++ [h])) = ((fs.filter fun k => decide ((k.length : Int) < z)).map fun k => k ++ [h]).map tupI := by rw [List.map_map]; rfl
  have hlen : ((fs.filter fun k => decide ((k.length : Int) < z)).map fun k => k ++ [h]).length ≤ 1000000 := by
    rw [List.length_map]
    exact Nat.le_trans (List.length_filter_le _ _) hf
  rw [e2]
  have ha := lst_add fs ((fs.filter fun k => decide ((k.length : Int) < z)).map fun k => k ++ [h]) (by omega)
  simp only [mK_pure, mB_pure, ha, stepL]
  rfl
theorem liars_grow {m : Nat} (hm : m ≤ 16) (z : Int) : ∃ fs, (forM (fun t a => QL1_law_liars (.int z) t [.int a]) (hsI m) (lotsL [[]]) : M PV (Ct PV (Unit))) = mP (.nx (lotsL fs)) ∧ Grow z m fs := by
  have key : ∀ (n : Nat), n ≤ m → ∃ fs, (∀ xs : List Int, (forM (fun t a => QL1_law_liars (.int z) t [.int a]) (hsI n ++ xs) (lotsL [[]]) : M PV (Ct PV Unit)) = forM (fun t a => QL1_law_liars (.int z) t [.int a]) xs (lotsL fs)) ∧ Grow z n fs := by
    intro n
    induction n with
    | zero => exact fun _ => ⟨[[]], fun xs => rfl, ⟨by simp, fun k hk => by rw [List.mem_singleton.mp hk]; exact List.nil_sublist _, fun s hs _ => by
        have : s = 0 := by omega
        subst this
        exact List.mem_cons_self⟩⟩
    | succ n ih =>
      intro hn
      obtain ⟨fs, h1, G⟩ := ih (by omega)
      refine ⟨stepL z n fs, fun xs => ?_, grow_step G⟩
      have p1 : 2 ^ n ≤ 2 ^ 16 := Nat.pow_le_pow_right (by decide) (by omega)
      have hl := G.len
      rw [hsI_succ, List.append_assoc, h1, List.singleton_append]
      exact forM_nx (body := fun t a => QL1_law_liars (.int z) t [.int a]) (stepL_run z n fs (by omega) (fun k hk => by
        have := (G.sub k hk).length_le
        rw [hsI_len] at this
        omega))
  obtain ⟨fs, h1, G⟩ := key m (Nat.le_refl _)
  have := h1 []
  rw [List.append_nil] at this
  exact ⟨fs, this, G⟩
theorem Dr.liars {m : Nat} (h1 : 1 ≤ m) (hm : m ≤ 16) : Dr (Q_law_liars (.int m)) fun x => ∃ ks, x = lotsP ks ∧ Lots m ks := by
  unfold Q_law_liars QB_law_liars
  simp -implicitDefEqProofs [sTupRg_ok (show m ≤ 1000000 by omega)]
  refine Dr.b (Dr.take (by decide) (by decide)) ?_
  rintro _ ⟨way, rfl, w0, w1⟩
  by_cases hw : way = 0
  · simp -implicitDefEqProofs [hw]
    exact Dr.p ⟨[[]], rfl, by simp, by simp, fun k hk => by rw [List.mem_singleton.mp hk]; exact List.nil_sublist _⟩
  by_cases hw3 : way < 3
  · simp -implicitDefEqProofs [hw, hw3]
    refine Dr.b (Dr.take (by omega) (by omega)) ?_
    rintro _ ⟨z, rfl, z0, z1⟩
    obtain ⟨fs, hf, G⟩ := liars_grow hm z
    have p16 : 2 ^ m ≤ 2 ^ 16 := Nat.pow_le_pow_right (by decide) hm
    have hfl := G.len
    have hcut := cut40 ((fs.filter fun k => decide ((k.length : Int) = z)).map tupI)
    rw [← List.map_take] at hcut
    have hsl : sSlX (.lst ((fs.filter fun k => decide ((k.length : Int) = z)).map tupI)) none (some 40) = some (.l (lotsL ((fs.filter fun k => decide ((k.length : Int) = z)).take 40))) := by
      show some (RV.l (.lst (cutP ((fs.filter fun k => decide ((k.length : Int) = z)).map tupI) none (some 40)))) = _
      rw [hcut]
    have L : Lots m ((fs.filter fun k => decide ((k.length : Int) = z)).take 40) := by
      refine ⟨fun e => ?_, by rw [List.length_take]; omega, fun k hk => G.sub k (List.mem_filter.mp (List.mem_of_mem_take hk)).1⟩
      have hz := G.has z.toNat (by omega) (by omega)
      have hf : hsI z.toNat ∈ fs.filter fun k => decide ((k.length : Int) = z) := List.mem_filter.mpr ⟨hz, by rw [hsI_len, decide_eq_true_eq]; omega⟩
      cases hh : fs.filter fun k => decide ((k.length : Int) = z) with
      | nil => rw [hh] at hf; cases hf
      | cons x xs => rw [hh] at e; cases e
    have hf' : (forM (fun t a => QL1_law_liars (.int z) t [.int a]) (hsI m) (.lst [.tup []]) : M PV (Ct PV Unit)) = mP (.nx (lotsL fs)) := hf
    simp -implicitDefEqProofs [hf', short_ok, show fs.length ≤ 16777216 by omega, hsl, Q_grt L (by omega)]
    exact Dr.p ⟨_, rfl, grt_lots L⟩
  · simp -implicitDefEqProofs [hw, hw3]
    refine Dr.b (Dr.take (by decide) (by decide)) ?_
    rintro _ ⟨r, rfl, r0, r1⟩
    simp -implicitDefEqProofs [sRng_ok (show 0 ≤ 1 + r by omega) (by omega), short_ok, hsI_len, show (1 + r).toNat ≤ 16777216 by omega]
    refine Dr.b (Dr.k (Dr.ca tupI (fun k => k.Sublist (hsI m)) _ fun i hi => ?_)) ?_
    · refine Dr.b (Dr.pickL (by decide) (by decide)) fun x hx => ?_
      have hx0 : ∃ p : Int, x = .int p ∧ 0 < p ∧ p < 1000 := by
        rcases List.mem_cons.mp hx with z | hx
        · exact ⟨2, z, by decide, by decide⟩
        rcases List.mem_cons.mp hx with z | hx
        · exact ⟨3, z, by decide, by decide⟩
        rcases List.mem_cons.mp hx with z | hx
        · exact ⟨4, z, by decide, by decide⟩
        cases hx
      obtain ⟨p, rfl, p3, q3⟩ := hx0
      exact Dr.drawnT p3 q3 (by rw [hsI_len]; omega)
    · rintro _ ⟨ks, rfl, hk2, hk1⟩
      rw [hsI_len] at hk2
      have L : Lots m ks := ⟨fun e => by rw [e] at hk2; simp at hk2; omega, by omega, hk1⟩
      simp -implicitDefEqProofs [Q_grt L (by omega)]
      exact Dr.p ⟨_, rfl, grt_lots L⟩
end VL

set_option Elab.async false
set_option linter.all false
set_option autoImplicit false
set_option maxRecDepth 100000
set_option maxHeartbeats 4000000
/-! L3: words: all houses, less, shared. -/
namespace VL
open PySem L2
noncomputable def QB_less0 (one_1 : PV) (two_2 : PV) : M Unit (Ct Unit Unit) :=
    qRet (qOpA sTuple (qCons (qComp (pt1) (qSeq (mP one_1)) (un1 (fun house_3 => qT (qOp2 (sIn true) (mP house_3) (mP two_2))) mF) (un1 (fun house_3 => mP house_3) mF)) (qNil)))
noncomputable def Q_less0 (one_1 : PV) (two_2 : PV) : M Unit PV := qEnd false (QB_less0 one_1 two_2)
noncomputable def QB_all_houses0 (many_1 : PV) : M Unit (Ct Unit Unit) :=
    qRet (qOp1 sTupRg1 (mP many_1))
noncomputable def Q_all_houses0 (many_1 : PV) : M Unit PV := qEnd false (QB_all_houses0 many_1)
noncomputable def QB_shared0 (one_1 : PV) (two_2 : PV) : M Unit (Ct Unit Unit) :=
    qRet (qOpA sTuple (qCons (qComp (pt1) (qSeq (mP one_1)) (un1 (fun house_3 => qT (qOp2 (sIn false) (mP house_3) (mP two_2))) mF) (un1 (fun house_3 => mP house_3) mF)) (qNil)))
noncomputable def Q_shared0 (one_1 : PV) (two_2 : PV) : M Unit PV := qEnd false (QB_shared0 one_1 two_2)
def lessI (a b : List Int) : List Int := a.filter fun i => !decide (i ∈ b)
def sharI (a b : List Int) : List Int := a.filter fun i => decide (i ∈ b)
theorem Q_less_ok (a b : List Int) (hl : a.length ≤ 16777216) : Q_less0 (tupI a) (tupI b) = mP (tupI (lessI a b)) := by
  unfold Q_less0 QB_less0 lessI
  simp -implicitDefEqProofs [sIn_tupI, short_ok, hl]
theorem Q_shared_ok (a b : List Int) (hl : a.length ≤ 16777216) : Q_shared0 (tupI a) (tupI b) = mP (tupI (sharI a b)) := by
  unfold Q_shared0 QB_shared0 sharI
  simp -implicitDefEqProofs [sIn_tupI, short_ok, hl]
theorem Q_all_houses_ok {m : Nat} (hm : m ≤ 1000000) : Q_all_houses0 (.int (m : Int)) = mP (tupI (hsI m)) := by
  unfold Q_all_houses0 QB_all_houses0
  simp -implicitDefEqProofs [sTupRg_ok hm]
/-- an item of a row -/
theorem sIxT {α : Type} (φ : α → PV) (xs : List α) {i : Nat} (h : i < xs.length) : sIx (.tup (xs.map φ)) (.int (i : Int)) = some (φ xs[i]) := by
  show atI (xs.map φ) (i : Int) = _
  unfold atI ixN
  have h1 : ¬ ((i : Int) < 0) := by omega
  simp [h1, h]
theorem sIxLs {α : Type} (φ : α → PV) (xs : List α) {i : Nat} (h : i < xs.length) : sIx (.lst (xs.map φ)) (.int (i : Int)) = some (φ xs[i]) := sIxT φ xs h
theorem mem_zip {α : Type} {xs : List α} {p : α × Nat} (h : p ∈ xs.zipIdx) : ∃ h : p.2 < xs.length, xs[p.2] = p.1 := by
  obtain ⟨x, i⟩ := p
  have := List.mem_zipIdx_iff_getElem?.mp h
  obtain ⟨h1, h2⟩ := List.getElem?_eq_some_iff.mp this
  exact ⟨h1, h2⟩
/-- a list is made longer where p -/
theorem forM_app {σ β α : Type} {body : PV → α → M σ (Ct PV PV)} (p : α → Bool) (f : α → PV) : ∀ (xs : List α) (l : List PV), l.length + xs.length ≤ 16777216 → (∀ x ∈ xs, ∀ l : List PV, l.length < 16777216 → body (.lst l) x = mP (.nx (.lst (if p x = true then l ++ [f x] else l)))) →
    (forM body xs (.lst l) : M σ (Ct PV β)) = mP (.nx (.lst (l ++ (xs.filter p).map f)))
  | [], l, _, _ => by rw [forM_nil]; simp
  | x :: xs, l, hl, h => by
    rw [List.length_cons] at hl
    rw [forM_nx (h x List.mem_cons_self l (by omega))]
    cases hp : p x with
    | true =>
      rw [if_pos rfl, forM_app p f xs _ (by rw [List.length_append, List.length_singleton]; omega) fun y hy => h y (List.mem_cons_of_mem _ hy), List.filter_cons_of_pos hp]
      simp
    | false =>
      rw [if_neg (by decide), forM_app p f xs _ (by omega) fun y hy => h y (List.mem_cons_of_mem _ hy), List.filter_cons_of_neg (by rw [hp]; decide)]
end VL

set_option Elab.async false
set_option linter.all false
set_option autoImplicit false
set_option maxRecDepth 100000
set_option maxHeartbeats 4000000
/-! L4: pieces of secrets. -/
namespace VL
open PySem L2
noncomputable def QB_law_town (most_1 : PV) : M PV (Ct Unit Unit) :=
    qS (qSet (qX2 sAddX (mP (.int 1)) (qOpA sMax2 (qCons (qCallB (un1 Q_law_take mF) (qCons (mP most_1) (qNil))) (qCons (qCallB (un1 Q_law_take mF) (qCons (mP most_1) (qNil))) (qNil))))))
    (fun many_2 => qRet (qDisp .tup (qCons (mP many_2) (qCons (qSl (qCallB (un1 Q_law_liars mF) (qCons (mP many_2) (qNil))) (mP none) (qI (mP (.int 10)))) (qNil)))))
noncomputable def Q_law_town (most_1 : PV) : M PV PV := qEnd false (QB_law_town most_1)
noncomputable def QB_law_modulus  : M PV (Ct Unit Unit) :=
    qRet (qCallB (un1 Q_law_pick mF) (qCons (qDisp .lst (qCons (mP (.int 2)) (qCons (mP (.int 3)) (qCons (mP (.int 5)) (qCons (qX2 sAddX (mP (.int 2)) (qCallB (un1 Q_law_take mF) (qCons (mP (.int 12)) (qNil)))) (qCons (qX2 sAddX (mP (.int 2)) (qCallB (un1 Q_law_take mF) (qCons (mP (.int 96)) (qNil)))) (qCons (mP (.int 97)) (qNil)))))))) (qNil)))
noncomputable def Q_law_modulus  : M PV PV := qEnd false (QB_law_modulus )
noncomputable def QB_law_row (modulus_1 : PV) (many_2 : PV) : M PV (Ct Unit Unit) :=
    qRet (qOpA sTuple (qCons (qComp (pt1) (qArg sRng1 (qCons (mP many_2) (qNil))) (un1 (fun turn_3 => mP true) mF) (un1 (fun turn_3 => qCallB (un1 Q_law_take mF) (qCons (mP modulus_1) (qNil))) mF)) (qNil)))
noncomputable def Q_law_row (modulus_1 : PV) (many_2 : PV) : M PV PV := qEnd false (QB_law_row modulus_1 many_2)
noncomputable def QL1_law_view (pliars_6 : PV) (plot_8 : PV) (l_5 : PV) : List PV → M Unit (Ct (PV) (PV)) := un2 (fun place_9 piece_10 =>
    qS (qIf (qT (qOp2 sNe (qComp (pt1) (qSeq (mP plot_8)) (un1 (fun house_11 => qT (qOp2 (sIn true) (mP house_11) (qOp2 sIx (mP pliars_6) (mP place_9)))) mF) (un1 (fun house_11 => mP (.int 1)) mF)) (qDisp .lst (qNil)))) (qS (qApp l_5 (qDisp .tup (qCons (mP place_9) (qCons (mP piece_10) (qNil)))))
    (fun rows_13 => mP (.nx rows_13))) (mP (.nx l_5)))
    (fun (j_12 : PV) => mP (.nx j_12))) mF
noncomputable def QB_law_view (liars_1 : PV) (pieces_2 : PV) (lot_3 : PV) : M Unit (Ct Unit Unit) :=
    qS (qSet (qDisp .lst (qNil)))
    (fun rows_4 => qS (qFor (ptTup (ptCons (pt1) (ptCons (pt1) (ptNil)))) (qEnum (mP pieces_2)) (QL1_law_view liars_1 lot_3) rows_4)
    (fun (l_5 : PV) => qRet (qOpA sTuple (qCons (mP l_5) (qNil)))))
noncomputable def Q_law_view (liars_1 : PV) (pieces_2 : PV) (lot_3 : PV) : M Unit PV := qEnd false (QB_law_view liars_1 pieces_2 lot_3)
noncomputable def QB_deal0 (liars_1 : PV) (modulus_2 : PV) (secret_3 : PV) (picks_4 : PV) : M Unit (Ct Unit Unit) :=
    qRet (qX2 sAddX (qOpA sTuple (qCons (mP picks_4) (qNil))) (qDisp .tup (qCons (qOp2 sMod (qOpA sToInt (qCons (qOp2 sSub (mP secret_3) (qOpA sSum2 (qCons (mP picks_4) (qNil)))) (qNil))) (mP modulus_2)) (qNil))))
noncomputable def Q_deal0 (liars_1 : PV) (modulus_2 : PV) (secret_3 : PV) (picks_4 : PV) : M Unit PV := qEnd false (QB_deal0 liars_1 modulus_2 secret_3 picks_4)
noncomputable def QB_seen0 (liars_1 : PV) (pieces_2 : PV) (lot_3 : PV) : M Unit (Ct Unit Unit) :=
    qRet (qOpA sTuple (qCons (qComp (ptTup (ptCons (pt1) (ptCons (pt1) (ptNil)))) (qEnum (mP pieces_2)) (un2 (fun place_4 piece_5 => qN (qT (qCall (un2 Q_is_within0 mF) (qCons (mP lot_3) (qCons (qOp2 sIx (mP liars_1) (mP place_4)) (qNil)))))) mF) (un2 (fun place_4 piece_5 => qDisp .tup (qCons (mP place_4) (qCons (mP piece_5) (qNil)))) mF)) (qNil)))
noncomputable def Q_seen0 (liars_1 : PV) (pieces_2 : PV) (lot_3 : PV) : M Unit PV := qEnd false (QB_seen0 liars_1 pieces_2 lot_3)
noncomputable def QB_secret_of0 (modulus_1 : PV) (pieces_2 : PV) : M Unit (Ct Unit Unit) :=
    qRet (qOp2 sMod (qOpA sSum2 (qCons (mP pieces_2) (qNil))) (mP modulus_1))
noncomputable def Q_secret_of0 (modulus_1 : PV) (pieces_2 : PV) : M Unit PV := qEnd false (QB_secret_of0 modulus_1 pieces_2)
noncomputable def QB_holders0 (many_1 : PV) (liars_2 : PV) (place_3 : PV) : M Unit (Ct Unit Unit) :=
    qRet (qCall (un2 Q_less0 mF) (qCons (qCall (un1 Q_all_houses0 mF) (qCons (mP many_1) (qNil))) (qCons (qOp2 sIx (mP liars_2) (mP place_3)) (qNil))))
noncomputable def Q_holders0 (many_1 : PV) (liars_2 : PV) (place_3 : PV) : M Unit PV := qEnd false (QB_holders0 many_1 liars_2 place_3)
noncomputable def QL1_dealings_for0 (pmodulus_11 : PV) (l_9 : PV) : List PV → M Unit (Ct (PV) (PV)) := un1 (fun turn_14 =>
    qS (qSet (qRep (qDisp .lst (qCons (qOpA sSum2 (qCons (mP l_9) (qNil))) (qNil))) (mP pmodulus_11)))
    (fun counts_15 => mP (.nx counts_15))) mF
noncomputable def QB_dealings_for0 (liars_1 : PV) (modulus_2 : PV) (rows_3 : PV) : M Unit (Ct Unit Unit) :=
    qS (qSet (qOp2 sMod (qOpA sSum2 (qCons (qComp (ptTup (ptCons (pt1) (ptCons (pt1) (ptNil)))) (qSeq (mP rows_3)) (un2 (fun place_5 piece_6 => mP true) mF) (un2 (fun place_5 piece_6 => mP piece_6) mF)) (qNil))) (mP modulus_2)))
    (fun total_4 => qS (qSet (qComp (pt1) (qArg sRng1 (qCons (mP modulus_2) (qNil))) (un1 (fun secret_8 => mP true) mF) (un1 (fun secret_8 => qIf (qT (qOp2 sEq (mP secret_8) (mP total_4))) (mP (.int 1)) (mP (.int 0))) mF)))
    (fun counts_7 => qS (qFor (pt1) (qArg sRng1 (qCons (qOp2 sSub (qOpA sLen (qCons (mP liars_1) (qNil))) (qOpA sLen (qCons (mP rows_3) (qNil)))) (qNil))) (QL1_dealings_for0 modulus_2) counts_7)
    (fun (l_9 : PV) => qRet (qOpA sTuple (qCons (mP l_9) (qNil))))))
noncomputable def Q_dealings_for0 (liars_1 : PV) (modulus_2 : PV) (rows_3 : PV) : M Unit PV := qEnd false (QB_dealings_for0 liars_1 modulus_2 rows_3)
noncomputable def QB_law_given (many_1 : PV) (liars_2 : PV) (place_3 : PV) : M Unit (Ct Unit Unit) :=
    qRet (qComp (pt1) (qArg sRng1 (qCons (mP many_1) (qNil))) (un1 (fun house_4 => qT (qOp2 (sIn true) (mP house_4) (qOp2 sIx (mP liars_2) (mP place_3)))) mF) (un1 (fun house_4 => mP house_4) mF))
noncomputable def Q_law_given (many_1 : PV) (liars_2 : PV) (place_3 : PV) : M Unit PV := qEnd false (QB_law_given many_1 liars_2 place_3)
theorem sMod_i {a b : Int} (h : 0 < b) : sMod (.int a) (.int b) = some (.int (a % b)) := sMod_int h
theorem tup_app (a b : List Int) (h : a.length + b.length ≤ 16777216) : sAddX (tupI a) (tupI b) = some (.v (tupI (a ++ b))) := by
  show (sAdd (tupI a) (tupI b)).map RV.v = _
  unfold sAdd
  simp [h]
theorem Q_deal_ok (x : PV) {m s : Int} {ps : List Int} (hm : 0 < m) (hl : ps.length ≤ 1000) : Q_deal0 x (.int m) (.int s) (tupI ps) = mP (tupI (ps ++ [(s - ps.sum) % m])) := by
  unfold Q_deal0 QB_deal0
  have := tup_app ps [(s - ps.sum) % m] (by simp; omega)
  have e : sTuple [tupI ps] = some (tupI ps) := rfl
  simp -implicitDefEqProofs [sMod_i hm, e]
  rw [show (PV.tup [.int ((s - ps.sum) % m)]) = tupI [(s - ps.sum) % m] from rfl, this]
  rfl
theorem Q_secret_ok {m : Int} (ps : List Int) (hm : 0 < m) : Q_secret_of0 (.int m) (tupI ps) = mP (.int (ps.sum % m)) := by
  unfold Q_secret_of0 QB_secret_of0
  simp -implicitDefEqProofs [sMod_i hm]
theorem Q_holders_ok {m : Nat} {ks : List (List Int)} {i : Nat} (hi : i < ks.length) (hm : m ≤ 1000) : Q_holders0 (.int (m : Int)) (lotsP ks) (.int (i : Int)) = mP (tupI (lessI (hsI m) ks[i])) := by
  unfold Q_holders0 QB_holders0
  simp -implicitDefEqProofs [Q_all_houses_ok (show m ≤ 1000000 by omega), sIxT tupI ks hi, Q_less_ok _ _ (show (hsI m).length ≤ 16777216 by rw [hsI_len]; omega)]
theorem Q_given_ok {m : Nat} {ks : List (List Int)} {i : Nat} (hi : i < ks.length) (hm : m ≤ 1000) : Q_law_given (.int (m : Int)) (lotsP ks) (.int (i : Int)) = mP (.lst ((lessI (hsI m) ks[i]).map .int)) := by
  unfold Q_law_given QB_law_given lessI
  simp -implicitDefEqProofs [sRng_nat (show m ≤ 1000000 by omega), short_ok, hsI_len, show m ≤ 16777216 by omega, sIxT tupI ks hi, sIn_tupI]
/-- what is seen: (piece, place) -/
def seenL (ks : List (List Int)) (ps lot : List Int) : List (Int × Nat) := ps.zipIdx.filter fun p => !subI lot (ks.getD p.2 [])
abbrev rowP (p : Int × Nat) : PV := .tup [.int (p.2 : Nat), .int p.1]
theorem Q_seen_ok {ks : List (List Int)} {ps lot : List Int} (hp : ps.length ≤ ks.length) (h1 : ps.length ≤ 1000) (h2 : lot.length ≤ 1000) : Q_seen0 (lotsP ks) (tupI ps) (tupI lot) = mP (.tup ((seenL ks ps lot).map rowP)) := by
  unfold Q_seen0 QB_seen0
  simp -implicitDefEqProofs [enumP_map, short_ok, show ps.length ≤ 16777216 by omega]
  rw [compQ_eq (fun p => !subI lot (ks.getD p.2 [])) rowP ps.zipIdx (fun p hpp => by
    obtain ⟨h, _⟩ := mem_zip hpp
    rw [sIxT tupI ks (show p.2 < ks.length by omega)]
    simp [Q_is_within lot _ (show lot.length ≤ 16777216 by omega), List.getD_eq_getElem?_getD, List.getElem?_eq_getElem (show p.2 < ks.length by omega)]) (fun _ _ _ => rfl)]
  rfl
theorem Q_view_ok {ks : List (List Int)} {ps lot : List Int} (hp : ps.length ≤ ks.length) (h1 : ps.length ≤ 1000) (h2 : lot.length ≤ 1000) : Q_law_view (lotsP ks) (tupI ps) (tupI lot) = mP (.tup ((seenL ks ps lot).map rowP)) := by
  unfold Q_law_view QB_law_view
  simp -implicitDefEqProofs [enumP_map]
  have := forM_app (σ := Unit) (β := Unit) (body := fun t (a : Int × Nat) => QL1_law_view (lotsP ks) (tupI lot) t [.int (a.2 : Nat), .int a.1]) (fun p => !subI lot (ks.getD p.2 [])) rowP ps.zipIdx [] (by simp; omega) (fun p hpp l hl => by
    obtain ⟨h, _⟩ := mem_zip hpp
    have hk : p.2 < ks.length := by omega
    unfold QL1_law_view
    have e0 : ks.getD p.2 [] = ks[p.2] := by rw [List.getD_eq_getElem?_getD, List.getElem?_eq_getElem hk]; rfl
    have e : (!(lot.filter fun i => !decide (i ∈ ks[p.2])).isEmpty) = !subI lot ks[p.2] := by rw [sub_filter]
    rw [e0]
    simp -implicitDefEqProofs [short_ok, show lot.length ≤ 16777216 by omega, sIxT tupI ks hk, sIn_tupI, appO_ok hl, e]
    cases subI lot ks[p.2] <;> simp [rowP])
  rw [List.nil_append] at this
  rw [this]
  rfl
theorem sum_rep (n : Nat) (v : Int) : (List.replicate n v).sum = n * v := by
  induction n with
  | zero => simp
  | succ n ih =>
    rw [List.replicate_succ, List.sum_cons, ih]
    have : ((n + 1 : Nat) : Int) * v = n * v + v := by
      rw [Int.natCast_succ, Int.add_mul, Int.one_mul]
    omega
theorem sum_one (n t : Nat) (h : t < n) : ((List.range n).map fun (i : Nat) => if (i : Int) = (t : Int) then (1 : Int) else 0).sum = 1 := by
  have zero : ∀ n : Nat, n ≤ t → ((List.range n).map fun (i : Nat) => if (i : Int) = (t : Int) then (1 : Int) else 0).sum = 0 := by
    intro n
    induction n with
    | zero => intro _; rfl
    | succ n ih =>
      intro hn
      rw [List.range_succ, List.map_append, List.sum_append, ih (by omega)]
      simp
      omega
  induction n with
  | zero => omega
  | succ n ih =>
    rw [List.range_succ, List.map_append, List.sum_append]
    by_cases e : t = n
    · subst e
      rw [zero t (Nat.le_refl _)]
      simp
    · rw [ih (by omega)]
      simp
      omega
/-- how many rows of pieces fit, by secret -/
def cnts (m left : Nat) (t : Int) : List Int := match left with
  | 0 => (hsI m).map fun i => if i = t then 1 else 0
  | n + 1 => List.replicate m ((m : Int) ^ n)
theorem cnts_sum (m left : Nat) {t : Int} (h0 : 0 ≤ t) (h1 : t < m) : (cnts m left t).sum = (m : Int) ^ left := by
  cases left with
  | zero =>
    unfold cnts hsI
    rw [List.map_map]
    obtain ⟨n, rfl⟩ := Int.eq_ofNat_of_zero_le h0
    exact sum_one m n (by omega)
  | succ n =>
    unfold cnts
    rw [sum_rep, Int.pow_succ, Int.mul_comm]
theorem cnts_step (m left : Nat) {t : Int} (h0 : 0 ≤ t) (h1 : t < m) (hm : m ≤ 1000) (x : PV) : (QL1_dealings_for0 (.int (m : Int)) (.lst ((cnts m left t).map .int)) [x] : M Unit (Ct PV PV)) = mP (.nx (.lst ((cnts m (left + 1) t).map .int))) := by
  unfold QL1_dealings_for0
  simp -implicitDefEqProofs [repS_1 _ (show (0 : Int) ≤ m by omega) (show (m : Int) ≤ 1000000 by omega), cnts_sum m left h0 h1]
  unfold cnts
  rw [List.map_replicate]
theorem cnts_loop (m : Nat) {t : Int} (h0 : 0 ≤ t) (h1 : t < m) (hm : m ≤ 1000) : ∀ (xs : List Int) (left : Nat), (forM (fun t a => QL1_dealings_for0 (.int (m : Int)) t [.int a]) xs (.lst ((cnts m left t).map .int)) : M Unit (Ct PV Unit)) = mP (.nx (.lst ((cnts m (left + xs.length) t).map .int)))
  | [], left => rfl
  | x :: xs, left => by
    rw [forM_nx (body := fun t a => QL1_dealings_for0 (.int (m : Int)) t [.int a]) (cnts_step m left h0 h1 hm (.int x)), cnts_loop m h0 h1 hm xs (left + 1), List.length_cons]
    congr 5
    omega
theorem ptAll_rows (rs : List (Int × Nat)) : ptAll (ptTup (ptCons pt1 (ptCons pt1 ptNil))) (rs.map rowP) = some (rs.map fun p => [.int (p.2 : Nat), .int p.1]) := ptAll_2 (fun p : Int × Nat => .int (p.2 : Nat)) (fun p => .int p.1) rs
def totL (rs : List (Int × Nat)) : Int := (rs.map fun p => p.1).sum
theorem Q_dealings_ok {ks : List (List Int)} {m : Nat} {rs : List (Int × Nat)} (hm : 0 < m) (hm2 : m ≤ 1000) (hr : rs.length ≤ ks.length) (hk : ks.length ≤ 1000) : Q_dealings_for0 (lotsP ks) (.int (m : Int)) (.tup (rs.map rowP)) = mP (tupI (cnts m (ks.length - rs.length) (totL rs % m))) := by
  have e1 : (rs.map fun p => PV.int p.1) = (rs.map fun p => p.1).map .int := by rw [List.map_map]; rfl
  have e2 : ((hsI m).map fun i => PV.int (if i = totL rs % (m : Int) then 1 else 0)) = (cnts m 0 (totL rs % m)).map .int := by unfold cnts; rw [List.map_map]; rfl
  have e3 : ((ks.length : Int) - (rs.length : Int)).toNat = ks.length - rs.length := by omega
  have l := cnts_loop m (t := totL rs % m) (Int.emod_nonneg _ (by omega)) (Int.emod_lt_of_pos _ (by omega)) hm2 (hsI (ks.length - rs.length)) 0
  rw [hsI_len, Nat.zero_add] at l
  unfold Q_dealings_for0 QB_dealings_for0
  simp -implicitDefEqProofs [ptAll_rows, short_ok, show rs.length ≤ 16777216 by omega, e1, -List.map_map, sMod_i (show (0 : Int) < m by omega), sRng_nat (show m ≤ 1000000 by omega), hsI_len, show m ≤ 16777216 by omega]
  have e4 : (rs.map fun p => p.1).sum = totL rs := rfl
  rw [e4, e2, sRng_ok (by omega) (by omega), e3]
  simp -implicitDefEqProofs [l, -List.map_map]
/-! ### draws -/
theorem Dr.max2 {a b : Int} {Q : PV → Prop} (h : ∀ c : Int, (c = a ∨ c = b) → Q (.int c)) : Dr (mO (sMax2 [.int a, .int b]) : M PV PV) Q := by
  rw [sMax2_int]
  split
  · exact Dr.p (h b (.inr rfl))
  · exact Dr.p (h a (.inl rfl))
theorem cut10 (xs : List PV) : cutP xs none (some 10) = xs.take 10 := by
  unfold cutP
  have e0 : HT.sIx xs.length 0 none = 0 := rfl
  rw [e0, List.drop_zero, Nat.sub_zero]
  have e1 : HT.sIx xs.length xs.length (some 10) = min 10 xs.length := by
    unfold HT.sIx
    simp
    try omega
  rw [e1]
  by_cases h : 10 ≤ xs.length
  · rw [Nat.min_eq_left h]
  · rw [Nat.min_eq_right (by omega), List.take_length, List.take_of_length_le (by omega)]
/-- (houses, liars): to ten lots -/
theorem Dr.town {k : Nat} (h1 : 1 ≤ k) (h2 : k ≤ 15) : Dr (Q_law_town (.int (k : Int))) fun x => ∃ (m : Nat) (ks : List (List Int)), x = .tup [.int (m : Int), lotsP ks] ∧ 1 ≤ m ∧ m ≤ k ∧ Lots m ks ∧ ks.length ≤ 10 := by
  unfold Q_law_town QB_law_town
  simp -implicitDefEqProofs
  refine Dr.b (Dr.take (by omega) (by omega)) ?_
  rintro _ ⟨r, rfl, r0, r1⟩
  refine Dr.b (Dr.take (by omega) (by omega)) ?_
  rintro _ ⟨r', rfl, r2, r3⟩
  refine Dr.b (Dr.max2 (Q := fun x => ∃ n : Nat, x = .int (n : Int) ∧ n < k) fun c hc => ⟨c.toNat, by congr 1; omega, by omega⟩) ?_
  rintro _ ⟨n, rfl, hn⟩
  have en : (1 : Int) + (n : Int) = ((n + 1 : Nat) : Int) := by omega
  simp -implicitDefEqProofs
  rw [en]
  refine Dr.b (Dr.liars (by omega) (by omega)) ?_
  rintro _ ⟨ks, rfl, L⟩
  have hcut : sSlX (lotsP ks) none (some 10) = some (.v (lotsP (ks.take 10))) := by
    show (sSl (.tup (ks.map tupI)) none (some 10)).map RV.v = _
    show (some (PV.tup (cutP (ks.map tupI) none (some 10)))).map RV.v = _
    rw [cut10, ← List.map_take]
    rfl
  simp -implicitDefEqProofs [hcut, -List.map_take]
  refine Dr.p ⟨n + 1, ks.take 10, rfl, by omega, by omega, ⟨?_, ?_, fun k hk => L.sub k (List.mem_of_mem_take hk)⟩, by rw [List.length_take]; omega⟩
  · have := L.ne
    cases ks with
    | nil => exact absurd rfl this
    | cons a b => simp
  · have := L.few
    rw [List.length_take]
    omega
theorem Dr.modulus : Dr Q_law_modulus fun x => ∃ m : Nat, x = .int (m : Int) ∧ 2 ≤ m ∧ m ≤ 97 := by
  unfold Q_law_modulus QB_law_modulus
  simp -implicitDefEqProofs
  refine Dr.b (Dr.take (by omega) (by omega)) ?_
  rintro _ ⟨r, rfl, r0, r1⟩
  simp -implicitDefEqProofs
  refine Dr.b (Dr.take (by omega) (by omega)) ?_
  rintro _ ⟨r', rfl, r2, r3⟩
  simp -implicitDefEqProofs
  refine (Dr.pickL (by simp) (by simp)).w fun x hx => ?_
  have key : ∀ c : Int, 2 ≤ c → c ≤ 97 → ∃ m : Nat, PV.int c = .int (m : Int) ∧ 2 ≤ m ∧ m ≤ 97 := fun c h1 h2 => ⟨c.toNat, by congr 1; omega, by omega, by omega⟩
  simp at hx
  rcases hx with h | h | h | h | h | h <;> subst h
  · exact key 2 (by decide) (by decide)
  · exact key 3 (by decide) (by decide)
  · exact key 5 (by decide) (by decide)
  · exact key _ (by omega) (by omega)
  · exact key _ (by omega) (by omega)
  · exact key 97 (by decide) (by decide)
theorem Dr.row {m : Nat} {n : Int} (hm : 0 < m) (hm2 : m ≤ 1000000) (h0 : 0 ≤ n) (hn : n ≤ 1000000) : Dr (Q_law_row (.int (m : Int)) (.int n)) fun x => ∃ ps : List Int, x = tupI ps ∧ ps.length = n.toNat ∧ ∀ p ∈ ps, 0 ≤ p ∧ p < m := by
  unfold Q_law_row QB_law_row
  simp -implicitDefEqProofs [sRng_ok h0 hn, short_ok, hsI_len, show n.toNat ≤ 16777216 by omega]
  refine Dr.b (Dr.k (Dr.ca .int (fun p : Int => 0 ≤ p ∧ p < m) _ fun i hi => (Dr.take (by omega) (by omega)).w fun x ⟨r, e, h1, h2⟩ => ⟨r, e, h1, h2⟩)) ?_
  rintro _ ⟨ps, rfl, h1, h2⟩
  rw [hsI_len] at h1
  exact Dr.p ⟨ps, rfl, h1, h2⟩
end VL

set_option Elab.async false
set_option linter.all false
set_option autoImplicit false
set_option maxRecDepth 100000
set_option maxHeartbeats 4000000
/-! L8: rows of sayings -/
namespace VL
open PySem L2
noncomputable def QL1_law_tree (pmany_14 : PV) (pliars_15 : PV) (l_13 : PV) : List PV → M Unit (Ct (PV) (PV)) := un1 (fun row_20 =>
    qS (qIf (qT (qCall (un2 Q_law_may mF) (qCons (mP pliars_15) (qCons (qOpA sTuple (qCons (qOpA sSortedA (qCons (mP row_20) (qNil))) (qNil))) (qNil))))) (qS (qExt l_13 (qComp (pt1) (qArg sRng1 (qCons (mP pmany_14) (qNil))) (un1 (fun house_23 => qT (qOp2 (sIn true) (mP house_23) (mP row_20))) mF) (un1 (fun house_23 => qX2 sAddX (mP row_20) (qDisp .tup (qCons (mP house_23) (qNil)))) mF)))
    (fun later_22 => mP (.nx later_22))) (mP (.nx l_13)))
    (fun (j_21 : PV) => mP (.nx j_21))) mF
noncomputable def QL2_law_tree (pmany_7 : PV) (pliars_8 : PV) (l_6 : PV × PV) : List PV → M Unit (Ct (PV × PV) (PV × PV)) := un1 (fun turn_10 =>
    qS (qSet (qX2 sAddX (mP l_6.1) (qOpA sSortedA (qCons (mP l_6.2) (qNil)))))
    (fun found_11 => qS (qSet (qDisp .lst (qNil)))
    (fun later_12 => qS (qFor (pt1) (qSeq (mP l_6.2)) (QL1_law_tree pmany_7 pliars_8) later_12)
    (fun (l_13 : PV) => qS (qSet (mP l_13))
    (fun layer_24 => mP (.nx (found_11, layer_24))))))) mF
noncomputable def QB_law_tree (many_1 : PV) (liars_2 : PV) (start_3 : PV) : M Unit (Ct Unit Unit) :=
    qS (qAsgX [qDisp .lst (qNil), qDisp .lst (qCons (qDisp .tup (qCons (mP start_3) (qNil))) (qNil))])
    (un2 (fun found_4 layer_5 => qS (qFor (pt1) (qArg sRng1 (qCons (mP many_1) (qNil))) (QL2_law_tree many_1 liars_2) (found_4, layer_5))
    (fun (l_6 : PV × PV) => qRet (qOpA sTuple (qCons (mP l_6.1) (qNil))))) mF)
noncomputable def Q_law_tree (many_1 : PV) (liars_2 : PV) (start_3 : PV) : M Unit PV := qEnd false (QB_law_tree many_1 liars_2 start_3)
noncomputable def QB_goes_on0 (liars_1 : PV) (row_2 : PV) : M Unit (Ct Unit Unit) :=
    qRet (qCall (un2 Q_may_lie0 mF) (qCons (mP liars_1) (qCons (qOpA sTuple (qCons (qOpA sSortedA (qCons (mP row_2) (qNil))) (qNil))) (qNil))))
noncomputable def Q_goes_on0 (liars_1 : PV) (row_2 : PV) : M Unit PV := qEnd false (QB_goes_on0 liars_1 row_2)
noncomputable def QB_next_rows0 (many_1 : PV) (row_2 : PV) : M Unit (Ct Unit Unit) :=
    qRet (qComp (pt1) (qArg sRng1 (qCons (mP many_1) (qNil))) (un1 (fun house_3 => qT (qOp2 (sIn true) (mP house_3) (mP row_2))) mF) (un1 (fun house_3 => qX2 sAddX (mP row_2) (qDisp .tup (qCons (mP house_3) (qNil)))) mF))
noncomputable def Q_next_rows0 (many_1 : PV) (row_2 : PV) : M Unit PV := qEnd false (QB_next_rows0 many_1 row_2)
noncomputable def QL1_rows_of0 (pmany_13 : PV) (pliars_14 : PV) (l_12 : PV) : List PV → M Unit (Ct (PV) (PV)) := un1 (fun row_18 =>
    qS (qIf (qT (qCall (un2 Q_goes_on0 mF) (qCons (mP pliars_14) (qCons (mP row_18) (qNil))))) (qS (qExt l_12 (qCall (un2 Q_next_rows0 mF) (qCons (mP pmany_13) (qCons (mP row_18) (qNil)))))
    (fun later_20 => mP (.nx later_20))) (mP (.nx l_12)))
    (fun (j_19 : PV) => mP (.nx j_19))) mF
noncomputable def QC2_rows_of0  (l_6 : PV × PV) : M Unit Bool := qT (qOp2 (sOrd .Gt) (qOpA sLen (qCons (mP l_6.2) (qNil))) (mP (.int 0)))
noncomputable def QW2_rows_of0 (pmany_7 : PV) (pliars_8 : PV) (l_6 : PV × PV) : M Unit (Ct (PV × PV) (PV × PV)) :=
    qS (qExt l_6.1 (mP l_6.2))
    (fun found_10 => qS (qSet (qDisp .lst (qNil)))
    (fun later_11 => qS (qFor (pt1) (qSeq (mP l_6.2)) (QL1_rows_of0 pmany_7 pliars_8) later_11)
    (fun (l_12 : PV) => qS (qSet (mP l_12))
    (fun layer_21 => mP (.nx (found_10, layer_21))))))
noncomputable def QB_rows_of0 (many_1 : PV) (liars_2 : PV) (start_3 : PV) : M Unit (Ct Unit Unit) :=
    qS (qAsgX [qDisp .lst (qNil), qDisp .lst (qCons (qDisp .tup (qCons (mP start_3) (qNil))) (qNil))])
    (un2 (fun found_4 layer_5 => qS (whileM (QC2_rows_of0) (QW2_rows_of0 many_1 liars_2) (found_4, layer_5))
    (fun (l_6 : PV × PV) => qRet (qOpA sTuple (qCons (mP l_6.1) (qNil))))) mF)
noncomputable def Q_rows_of0 (many_1 : PV) (liars_2 : PV) (start_3 : PV) : M Unit PV := qEnd false (QB_rows_of0 many_1 liars_2 start_3)
noncomputable def QB_rounds_of0 (many_1 : PV) (liars_2 : PV) (start_3 : PV) : M Unit (Ct Unit Unit) :=
    qRet (qOpA sMaxL (qCons (qComp (pt1) (qSeq (qCall (un3 Q_rows_of0 mF) (qCons (mP many_1) (qCons (mP liars_2) (qCons (mP start_3) (qNil)))))) (un1 (fun row_4 => mP true) mF) (un1 (fun row_4 => qOpA sLen (qCons (mP row_4) (qNil))) mF)) (qNil)))
noncomputable def Q_rounds_of0 (many_1 : PV) (liars_2 : PV) (start_3 : PV) : M Unit PV := qEnd false (QB_rounds_of0 many_1 liars_2 start_3)
/-- a row, ascending -/
theorem srI_ex (row : List Int) : ∃ ns : List Int, srtP (row.map .int) = ns.map .int ∧ ns.Perm row := by
  have p := srtP_perm (row.map PV.int)
  have : ∀ xs : List PV, xs.Perm (row.map PV.int) → ∃ ns : List Int, xs = ns.map .int := fun xs hp => by
    have h : ∀ x ∈ xs, ∃ i : Int, x = .int i := fun x hx => by
      obtain ⟨i, _, rfl⟩ := List.mem_map.mp (hp.mem_iff.mp hx)
      exact ⟨i, rfl⟩
    clear hp
    induction xs with
    | nil => exact ⟨[], rfl⟩
    | cons x xs ih =>
      obtain ⟨i, rfl⟩ := h x List.mem_cons_self
      obtain ⟨ns, rfl⟩ := ih fun y hy => h y (List.mem_cons_of_mem _ hy)
      exact ⟨i :: ns, rfl⟩
  obtain ⟨ns, e⟩ := this _ p
  refine ⟨ns, e, ?_⟩
  rw [e] at p
  have := p.map (fun x => match x with | .int i => i | _ => 0)
  rw [List.map_map, List.map_map] at this
  simpa [Function.comp_def] using this
noncomputable def srI (row : List Int) : List Int := Classical.choose (srI_ex row)
theorem srI_eq (row : List Int) : srtP (row.map .int) = (srI row).map .int := (Classical.choose_spec (srI_ex row)).1
theorem srI_perm (row : List Int) : (srI row).Perm row := (Classical.choose_spec (srI_ex row)).2
theorem sSorted_tupI (row : List Int) : sSortedA [tupI row] = some (.lst ((srI row).map .int)) := by
  show (if (intsOf (row.map PV.int)).isSome = true then some (PV.lst (srtP (row.map .int))) else none) = _
  rw [intsOf_map]
  show some (PV.lst (srtP (row.map .int))) = _
  rw [srI_eq]
theorem mayB_perm (ks : List (List Int)) {a b : List Int} (p : a.Perm b) : mayB ks a = mayB ks b := by
  unfold mayB subI
  congr 1
  funext k
  exact p.all_eq
theorem Q_goes_on {ks : List (List Int)} {row : List Int} (hr : row.length ≤ 1000) (hk : ks.length ≤ 1000) : Q_goes_on0 (lotsP ks) (tupI row) = mP (.bl (mayB ks row)) := by
  have e := Q_may_lie ks (srI row) (by rw [(srI_perm row).length_eq]; omega) (by omega)
  rw [mayB_perm ks (srI_perm row)] at e
  have st : sTuple [.lst ((srI row).map .int)] = some (tupI (srI row)) := rfl
  unfold Q_goes_on0 QB_goes_on0
  simp -implicitDefEqProofs [sSorted_tupI, st, e]
def extR (m : Nat) (row : List Int) : List (List Int) := ((hsI m).filter fun h => !decide (h ∈ row)).map fun h => row ++ [h]
theorem extR_len (m : Nat) (row : List Int) : (extR m row).length ≤ m := by
  unfold extR
  rw [List.length_map]
  have := List.length_filter_le (fun h => !decide (h ∈ row)) (hsI m)
  rw [hsI_len] at this
  exact this
theorem ext_c {σ : Type} (m : Nat) (row : List Int) (hr : row.length ≤ 1000) : (compQ (fun a : Int => mP !decide (a ∈ row)) (fun a => mO ((sAddX (tupI row) (.tup [.int a])).map RV.val)) (hsI m) : M σ (List PV)) = mP ((extR m row).map tupI) := by
  rw [compQ_eq (fun a : Int => !decide (a ∈ row)) (fun a => tupI (row ++ [a])) (hsI m) (fun _ _ => rfl) (fun a _ _ => by rw [tup_add row a (by omega)]; rfl)]
  unfold extR
  rw [List.map_map]
  rfl
theorem Q_next_rows_ok {m : Nat} {row : List Int} (hm : m ≤ 1000) (hr : row.length ≤ 1000) : Q_next_rows0 (.int (m : Int)) (tupI row) = mP (.lst ((extR m row).map tupI)) := by
  have e1 := fun i => sIn_tupI true i row
  have c : (compQ (fun a : Int => mP !decide (a ∈ row)) (fun a => mO ((sAddX (tupI row) (.tup [.int a])).map RV.val)) (hsI m) : M Unit (List PV)) = mP ((extR m row).map tupI) := ext_c m row hr
  unfold Q_next_rows0 QB_next_rows0
  simp -implicitDefEqProofs [sRng_nat (n := m) (by omega), short_ok, hsI_len, show m ≤ 16777216 by omega, e1, c]
def goR (m : Nat) (ks : List (List Int)) (row : List Int) : List (List Int) := if mayB ks row = true then extR m row else []
theorem goR_len (m : Nat) (ks : List (List Int)) (row : List Int) : (goR m ks row).length ≤ m := by
  unfold goR
  split
  · exact extR_len m row
  · exact Nat.zero_le _
def nxR (m : Nat) (ks : List (List Int)) (layer : List (List Int)) : List (List Int) := layer.flatMap (goR m ks)
theorem ext_lots (fs gs : List (List Int)) (h : fs.length + gs.length ≤ 16777216) : extO (.lst (fs.map tupI)) (.lst (gs.map tupI)) = some (.lst ((fs ++ gs).map tupI)) := by
  show ((if (fs.map tupI).length + (gs.map tupI).length ≤ 16777216 then some (PV.non, PV.lst (fs.map tupI ++ gs.map tupI)) else none).map (·.2)) = _
  rw [List.length_map, List.length_map, if_pos h, List.map_append]
  rfl
theorem row_step {m : Nat} {ks fs : List (List Int)} {row : List Int} (hm : m ≤ 1000) (hr : row.length ≤ 1000) (hk : ks.length ≤ 1000) (hf : fs.length + m ≤ 16777216) : (QL1_rows_of0 (.int (m : Int)) (lotsP ks) (lotsL fs) [tupI row] : M Unit (Ct PV PV)) = mP (.nx (lotsL (fs ++ goR m ks row))) := by
  have e := ext_lots fs (extR m row) (by have := extR_len m row; omega)
  unfold QL1_rows_of0 goR
  cases h : mayB ks row <;> simp -implicitDefEqProofs [Q_goes_on hr hk, h, Q_next_rows_ok hm hr, e, -List.map_append]
theorem tree_step {m : Nat} {ks fs : List (List Int)} {row : List Int} (hm : m ≤ 1000) (hr : row.length ≤ 1000) (hk : ks.length ≤ 1000) (hf : fs.length + m ≤ 16777216) : (QL1_law_tree (.int (m : Int)) (lotsP ks) (lotsL fs) [tupI row] : M Unit (Ct PV PV)) = mP (.nx (lotsL (fs ++ goR m ks row))) := by
  have e := ext_lots fs (extR m row) (by have := extR_len m row; omega)
  have e1 := fun i => sIn_tupI true i row
  have e2 := Q_may ks (srI row) (by rw [(srI_perm row).length_eq]; omega) (by omega)
  rw [mayB_perm ks (srI_perm row)] at e2
  have st : sTuple [.lst ((srI row).map .int)] = some (tupI (srI row)) := rfl
  have c := ext_c (σ := Unit) m row hr
  unfold QL1_law_tree goR
  cases h : mayB ks row
  · rw [h] at e2
    simp -implicitDefEqProofs [sSorted_tupI, st, e2]
  · rw [h] at e2
    simp -implicitDefEqProofs [sSorted_tupI, st, e2, sRng_nat (n := m) (by omega), short_ok, hsI_len, show m ≤ 16777216 by omega, e1, c, e, -List.map_append]
theorem layer_loop {β : Type} {m : Nat} {body : PV → PV → M Unit (Ct PV PV)} {go : List Int → List (List Int)} (hg : ∀ r, (go r).length ≤ m) (hb : ∀ fs row, row.length ≤ 1000 → fs.length + m ≤ 16777216 → body (lotsL fs) (tupI row) = mP (.nx (lotsL (fs ++ go row)))) : ∀ (layer fs : List (List Int)), fs.length + layer.length * m ≤ 16777216 → (∀ r ∈ layer, r.length ≤ 1000) → (forM (fun t a => body t (tupI a)) layer (lotsL fs) : M Unit (Ct PV β)) = mP (.nx (lotsL (fs ++ layer.flatMap go)))
  | [], fs, _, _ => by rw [forM_nil, List.flatMap_nil, List.append_nil]
  | r :: layer, fs, h, hr => by
    rw [List.length_cons, Nat.succ_mul] at h
    have hl := hg r
    rw [forM_nx (body := fun t a => body t (tupI a)) (hb fs r (hr r List.mem_cons_self) (by omega)), layer_loop hg hb layer (fs ++ go r) (by rw [List.length_append]; omega) fun x hx => hr x (List.mem_cons_of_mem _ hx), List.append_assoc, List.flatMap_cons]
/-! ### layers -/
def ltI (a b : List Int) : Bool := ltP (tupI a) (tupI b)
theorem ltI_cons (x y : Int) (a b : List Int) : ltI (x :: a) (y :: b) = (decide (x < y) || (decide (x = y) && ltI a b)) := by
  apply Bool.eq_iff_iff.mpr
  show ltTrs (.lf x :: trs (a.map .int)) (.lf y :: trs (b.map .int)) = true ↔ _
  rw [ltTrs_cons, Bool.or_eq_true, Bool.and_eq_true, decide_eq_true_iff, decide_eq_true_iff]
  have e1 : ltTr (.lf x) (.lf y) = true ↔ x < y := by simp [ltTr]
  have e2 : (Tr.lf x = Tr.lf y) ↔ x = y := ⟨fun h => by injection h, fun h => by rw [h]⟩
  rw [e1, e2]
  rfl
theorem ltI_nil : ltI [] [] = false := rfl
theorem ltI_ext (h h' : Int) (hh : h < h') : ∀ r : List Int, ltI (r ++ [h]) (r ++ [h']) = true
  | [] => by rw [List.nil_append, List.nil_append, ltI_cons, decide_eq_true hh]; rfl
  | x :: r => by rw [List.cons_append, List.cons_append, ltI_cons, ltI_ext h h' hh r]; simp
theorem ltI_pre (h h' : Int) : ∀ r r' : List Int, r.length = r'.length → ltI r r' = true → ltI (r ++ [h]) (r' ++ [h']) = true
  | [], [], _, k => by cases k
  | x :: r, y :: r', hl, k => by
    rw [ltI_cons, Bool.or_eq_true, Bool.and_eq_true] at k
    rw [List.cons_append, List.cons_append, ltI_cons, Bool.or_eq_true, Bool.and_eq_true]
    rcases k with k | ⟨k1, k2⟩
    · exact .inl k
    · exact .inr ⟨k1, ltI_pre h h' r r' (by simpa using hl) k2⟩
  | [], _ :: _, hl, _ => by cases hl
  | _ :: _, [], hl, _ => by cases hl
theorem srtP_asc : ∀ xs : List PV, xs.Pairwise (fun x y => ltP x y = true) → srtP xs = xs
  | [], _ => rfl
  | x :: xs, h => by
    obtain ⟨h1, h2⟩ := List.pairwise_cons.mp h
    show insP x (srtP xs) = _
    rw [srtP_asc xs h2]
    cases xs with
    | nil => rfl
    | cons y ys =>
      show (if ltP x y = true then x :: y :: ys else _) = _
      rw [if_pos (h1 y List.mem_cons_self)]
def lay (m : Nat) (ks : List (List Int)) (s : Int) : Nat → List (List Int)
  | 0 => [[s]]
  | t + 1 => nxR m ks (lay m ks s t)
def fnd (m : Nat) (ks : List (List Int)) (s : Int) : Nat → List (List Int)
  | 0 => []
  | t + 1 => fnd m ks s t ++ lay m ks s t
structure RowOk (m : Nat) (s : Int) (t : Nat) (r : List Int) : Prop where
  len : r.length = t + 1
  nd : r.Nodup
  sub : ∀ i ∈ r, i ∈ hsI m
  hd : s ∈ r
theorem mem_extR {m : Nat} {row r : List Int} : r ∈ extR m row ↔ ∃ h, h ∈ hsI m ∧ h ∉ row ∧ r = row ++ [h] := by
  unfold extR
  rw [List.mem_map]
  constructor
  · rintro ⟨h, h1, rfl⟩
    have := List.mem_filter.mp h1
    exact ⟨h, this.1, by simpa using this.2, rfl⟩
  · rintro ⟨h, h1, h2, rfl⟩
    exact ⟨h, List.mem_filter.mpr ⟨h1, by simpa using h2⟩, rfl⟩
theorem mem_nxR {m : Nat} {ks layer : List (List Int)} {r : List Int} : r ∈ nxR m ks layer ↔ ∃ row ∈ layer, mayB ks row = true ∧ r ∈ extR m row := by
  unfold nxR goR
  rw [List.mem_flatMap]
  constructor
  · rintro ⟨row, h1, h2⟩
    split at h2
    · exact ⟨row, h1, by assumption, h2⟩
    · cases h2
  · rintro ⟨row, h1, h2, h3⟩
    exact ⟨row, h1, by rw [if_pos h2]; exact h3⟩
theorem lay_ok {m : Nat} {ks : List (List Int)} {s : Int} (hs : s ∈ hsI m) : ∀ t, ∀ r ∈ lay m ks s t, RowOk m s t r
  | 0, r, h => by
    rcases List.mem_singleton.mp h with rfl
    exact ⟨rfl, by simp, fun i hi => by rcases List.mem_singleton.mp hi with rfl; exact hs, by simp⟩
  | t + 1, r, h => by
    obtain ⟨row, h1, _, h3⟩ := mem_nxR.mp h
    obtain ⟨x, h4, h5, rfl⟩ := mem_extR.mp h3
    have R := lay_ok hs t row h1
    refine ⟨by rw [List.length_append, R.len, List.length_singleton], ?_, fun i hi => ?_, by simp [R.hd]⟩
    · rw [List.nodup_append]
      exact ⟨R.nd, by simp, fun a ha b hb => by rcases List.mem_singleton.mp hb with rfl; exact fun e => h5 (e ▸ ha)⟩
    · rcases List.mem_append.mp hi with hi | hi
      · exact R.sub i hi
      · rcases List.mem_singleton.mp hi with rfl
        exact h4
theorem extR_asc (m : Nat) (row : List Int) : (extR m row).Pairwise fun a b => ltI a b = true := by
  unfold extR
  exact List.pairwise_map.mpr (((hsI_inc m).sublist List.filter_sublist).imp fun {a b} h => ltI_ext a b h row)
theorem lay_asc {m : Nat} {ks : List (List Int)} {s : Int} (hs : s ∈ hsI m) : ∀ t, (lay m ks s t).Pairwise fun a b => ltI a b = true
  | 0 => by show [[s]].Pairwise _; simp
  | t + 1 => by
    show (nxR m ks (lay m ks s t)).Pairwise _
    unfold nxR
    rw [List.pairwise_flatMap]
    refine ⟨fun a _ => ?_, ?_⟩
    · unfold goR
      split
      · exact extR_asc m a
      · exact .nil
    · refine List.Pairwise.imp_of_mem ?_ (lay_asc hs t)
      intro a b ha hb hab x hx y hy
      unfold goR at hx hy
      split at hx
      · split at hy
        · obtain ⟨h, _, _, rfl⟩ := mem_extR.mp hx
          obtain ⟨h', _, _, rfl⟩ := mem_extR.mp hy
          exact ltI_pre h h' a b (by rw [(lay_ok hs t a ha).len, (lay_ok hs t b hb).len]) hab
        · cases hy
      · cases hx
theorem nodup_le : ∀ (r l : List Int), r.Nodup → (∀ i ∈ r, i ∈ l) → r.length ≤ l.length
  | [], _, _, _ => Nat.zero_le _
  | x :: r, l, h, hs => by
    obtain ⟨h1, h2⟩ := List.nodup_cons.mp h
    have hx := hs x List.mem_cons_self
    have := nodup_le r (l.erase x) h2 fun i hi => (List.mem_erase_of_ne (fun e => h1 (by rw [← e]; exact hi))).mpr (hs i (List.mem_cons_of_mem _ hi))
    rw [List.length_erase_of_mem hx] at this
    have := List.length_pos_of_mem hx
    rw [List.length_cons]
    omega
theorem nodup_len {m : Nat} {r : List Int} (h : r.Nodup) (hs : ∀ i ∈ r, i ∈ hsI m) : r.length ≤ m := by
  have := nodup_le r (hsI m) h hs
  rw [hsI_len] at this
  exact this
theorem lay_end {m : Nat} {ks : List (List Int)} {s : Int} (hs : s ∈ hsI m) : lay m ks s m = [] := by
  rw [List.eq_nil_iff_forall_not_mem]
  intro r hr
  have R := lay_ok hs m r hr
  have := nodup_len R.nd R.sub
  have := R.len
  omega
theorem flat_len {α β : Type} (f : α → List β) (m : Nat) (h : ∀ a, (f a).length ≤ m) : ∀ l : List α, (l.flatMap f).length ≤ l.length * m
  | [] => by simp
  | a :: l => by
    rw [List.flatMap_cons, List.length_append, List.length_cons, Nat.succ_mul]
    have := flat_len f m h l
    have := h a
    omega
theorem lay_len (m : Nat) (hm : m ≤ 6) (ks : List (List Int)) (s : Int) : ∀ t, (lay m ks s t).length ≤ 6 ^ t
  | 0 => Nat.le_refl _
  | t + 1 => by
    have h1 := flat_len (goR m ks) m (goR_len m ks) (lay m ks s t)
    have h2 := lay_len m hm ks s t
    show (nxR m ks (lay m ks s t)).length ≤ _
    rw [Nat.pow_succ]
    exact Nat.le_trans h1 (Nat.mul_le_mul h2 hm)
theorem lay_len6 {m : Nat} (hm : m ≤ 6) (ks : List (List Int)) {s : Int} {t : Nat} (ht : t ≤ 6) : (lay m ks s t).length ≤ 46656 := by
  have h1 := lay_len m hm ks s t
  have h2 : 6 ^ t ≤ 6 ^ 6 := Nat.pow_le_pow_right (by decide) ht
  exact Nat.le_trans h1 h2
theorem fnd_len {m : Nat} (hm : m ≤ 6) (ks : List (List Int)) {s : Int} : ∀ t, t ≤ 6 → (fnd m ks s t).length ≤ t * 7776
  | 0, _ => Nat.le_refl _
  | t + 1, h => by
    have h1 := lay_len m hm ks s t
    have h2 : 6 ^ t ≤ 6 ^ 5 := Nat.pow_le_pow_right (by decide) (by omega)
    have h3 := fnd_len hm ks (s := s) t (by omega)
    show (fnd m ks s t ++ lay m ks s t).length ≤ _
    rw [List.length_append, Nat.succ_mul]
    have h4 : (6 : Nat) ^ 5 = 7776 := by decide
    omega
theorem tree_turn {m : Nat} {ks : List (List Int)} {s : Int} (hm : m ≤ 6) (hk : ks.length ≤ 1000) (hs : s ∈ hsI m) (t : Nat) (ht : t < 6) (x : PV) : QL2_law_tree (.int (m : Int)) (lotsP ks) (lotsL (fnd m ks s t), lotsL (lay m ks s t)) [x] = mP (.nx (lotsL (fnd m ks s (t + 1)), lotsL (lay m ks s (t + 1)))) := by
  have h1 := lay_len m hm ks s t
  have h2 := fnd_len hm ks (s := s) t (by omega)
  have h3 := lay_len6 hm ks (s := s) (t := t) (by omega)
  have h4 : (lay m ks s t).length * m ≤ 46656 * 6 := Nat.mul_le_mul h3 hm
  have so : sSortedA [lotsL (lay m ks s t)] = some (lotsL (lay m ks s t)) := by
    show (if (intsOf ((lay m ks s t).map tupI)).isSome = true ∨ tupsOk ((lay m ks s t).map tupI) = true then some (PV.lst (srtP ((lay m ks s t).map tupI))) else none) = _
    rw [if_pos (.inr (tupsOk_flat _)), srtP_asc]
    exact List.pairwise_map.mpr (lay_asc hs t)
  have ad := lst_add (fnd m ks s t) (lay m ks s t) (by omega)
  have lp := layer_loop (β := PV × PV) (m := m) (body := fun t a => QL1_law_tree (.int (m : Int)) (lotsP ks) t [a]) (go := goR m ks) (goR_len m ks) (fun fs row hr hf => tree_step (by omega) hr hk hf) (lay m ks s t) [] (by simp; omega) (fun r hr => by rw [(lay_ok hs t r hr).len]; omega)
  rw [List.nil_append] at lp
  unfold QL2_law_tree
  simp -implicitDefEqProofs [so, ad, -List.map_append, short_ok, show (lay m ks s t).length ≤ 16777216 by omega]
  rw [show PV.lst [] = lotsL [] from rfl, lp]
  rfl
theorem rows_turn {m : Nat} {ks : List (List Int)} {s : Int} (hm : m ≤ 6) (hk : ks.length ≤ 1000) (hs : s ∈ hsI m) (t : Nat) (ht : t < 6) : QW2_rows_of0 (.int (m : Int)) (lotsP ks) (lotsL (fnd m ks s t), lotsL (lay m ks s t)) = mP (.nx (lotsL (fnd m ks s (t + 1)), lotsL (lay m ks s (t + 1)))) := by
  have h1 := lay_len m hm ks s t
  have h2 := fnd_len hm ks (s := s) t (by omega)
  have h3 := lay_len6 hm ks (s := s) (t := t) (by omega)
  have h4 : (lay m ks s t).length * m ≤ 46656 * 6 := Nat.mul_le_mul h3 hm
  have ad := ext_lots (fnd m ks s t) (lay m ks s t) (by omega)
  have lp := layer_loop (β := PV × PV) (m := m) (body := fun t a => QL1_rows_of0 (.int (m : Int)) (lotsP ks) t [a]) (go := goR m ks) (goR_len m ks) (fun fs row hr hf => row_step (by omega) hr hk hf) (lay m ks s t) [] (by simp; omega) (fun r hr => by rw [(lay_ok hs t r hr).len]; omega)
  rw [List.nil_append] at lp
  unfold QW2_rows_of0
  simp -implicitDefEqProofs [ad, -List.map_append, short_ok, show (lay m ks s t).length ≤ 16777216 by omega]
  rw [show PV.lst [] = lotsL [] from rfl, lp]
  rfl
theorem Q_tree {m : Nat} {ks : List (List Int)} {s : Int} (hm : m ≤ 6) (hk : ks.length ≤ 1000) (hs : s ∈ hsI m) : Q_law_tree (.int (m : Int)) (lotsP ks) (.int s) = mP (lotsP (fnd m ks s m)) := by
  have lp : ∀ j, j ≤ 6 → (forM (fun t a => QL2_law_tree (.int (m : Int)) (lotsP ks) t [.int a]) (hsI j) (lotsL (fnd m ks s 0), lotsL (lay m ks s 0)) : M Unit (Ct (PV × PV) Unit)) = mP (.nx (lotsL (fnd m ks s j), lotsL (lay m ks s j))) := by
    have gen : ∀ (xs : List Int) (j : Nat), j + xs.length ≤ 6 → (forM (fun t a => QL2_law_tree (.int (m : Int)) (lotsP ks) t [.int a]) xs (lotsL (fnd m ks s j), lotsL (lay m ks s j)) : M Unit (Ct (PV × PV) Unit)) = mP (.nx (lotsL (fnd m ks s (j + xs.length)), lotsL (lay m ks s (j + xs.length)))) := by
      intro xs
      induction xs with
      | nil => intro j _; rfl
      | cons x xs ih =>
        intro j hj
        rw [List.length_cons] at hj ⊢
        rw [forM_nx (body := fun t a => QL2_law_tree (.int (m : Int)) (lotsP ks) t [.int a]) (tree_turn hm hk hs j (by omega) _), ih (j + 1) (by omega), show j + 1 + xs.length = j + (xs.length + 1) by omega]
    intro j hj
    have := gen (hsI j) 0 (by rw [hsI_len]; omega)
    rw [hsI_len, Nat.zero_add] at this
    exact this
  have lp := lp m hm
  have lp' : (forM (fun t a => QL2_law_tree (.int (m : Int)) (lotsP ks) t [.int a]) (hsI m) (.lst [], .lst [.tup [.int s]]) : M Unit (Ct (PV × PV) Unit)) = mP (.nx (lotsL (fnd m ks s m), lotsL (lay m ks s m))) := lp
  have st : sTuple [lotsL (fnd m ks s m)] = some (lotsP (fnd m ks s m)) := rfl
  unfold Q_law_tree QB_law_tree
  simp -implicitDefEqProofs [sRng_nat (n := m) (by omega), short_ok, hsI_len, show m ≤ 16777216 by omega]
  rw [lp']
  simp -implicitDefEqProofs [st]
theorem fnd_stop {m : Nat} {ks : List (List Int)} {s : Int} {t : Nat} (h : lay m ks s t = []) : ∀ d, lay m ks s (t + d) = [] ∧ fnd m ks s (t + d) = fnd m ks s t
  | 0 => ⟨h, rfl⟩
  | d + 1 => by
    obtain ⟨h1, h2⟩ := fnd_stop h d
    refine ⟨?_, ?_⟩
    · show nxR m ks (lay m ks s (t + d)) = []
      rw [h1]
      rfl
    · show fnd m ks s (t + d) ++ lay m ks s (t + d) = _
      rw [h1, h2, List.append_nil]
theorem Q_rows_ok {m : Nat} {ks : List (List Int)} {s : Int} (hm : m ≤ 6) (hk : ks.length ≤ 1000) (hs : s ∈ hsI m) : Q_rows_of0 (.int (m : Int)) (lotsP ks) (.int s) = mP (lotsP (fnd m ks s m)) := by
  have cd : ∀ t, QC2_rows_of0 (lotsL (fnd m ks s t), lotsL (lay m ks s t)) = mP (!(lay m ks s t).isEmpty) := fun t => by
    unfold QC2_rows_of0
    simp -implicitDefEqProofs
    cases lay m ks s t <;> simp
  have wl : ∀ d t, t + d = m → ∃ z, (whileM QC2_rows_of0 (QW2_rows_of0 (.int (m : Int)) (lotsP ks)) (lotsL (fnd m ks s t), lotsL (lay m ks s t)) : M Unit (Ct (PV × PV) Unit)) = mP (.nx (lotsL (fnd m ks s m), z)) := by
    intro d
    induction d with
    | zero =>
      intro t ht
      have e : t = m := by omega
      subst e
      refine ⟨lotsL (lay t ks s t), ?_⟩
      rw [whileM_eq, cd, mB_pure, lay_end hs]
      rfl
    | succ d ih =>
      intro t ht
      rw [whileM_eq, cd, mB_pure]
      cases hl : lay m ks s t with
      | nil =>
        refine ⟨lotsL [], ?_⟩
        have := (fnd_stop hl (m - t)).2
        rw [show t + (m - t) = m by omega] at this
        rw [this]
        rfl
      | cons r rs =>
        rw [← hl]
        obtain ⟨z, hz⟩ := ih (t + 1) (by omega)
        refine ⟨z, ?_⟩
        rw [if_pos (by rw [hl]; rfl), rows_turn hm hk hs t (by omega), mB_pure]
        exact hz
  obtain ⟨z, wl⟩ := wl m 0 (by omega)
  have wl' : (whileM QC2_rows_of0 (QW2_rows_of0 (.int (m : Int)) (lotsP ks)) (.lst [], .lst [.tup [.int s]]) : M Unit (Ct (PV × PV) Unit)) = mP (.nx (lotsL (fnd m ks s m), z)) := wl
  have st : sTuple [lotsL (fnd m ks s m)] = some (lotsP (fnd m ks s m)) := rfl
  unfold Q_rows_of0 QB_rows_of0
  simp -implicitDefEqProofs
  rw [wl']
  simp -implicitDefEqProofs [st]
/-! ### how long they are -/
theorem mem_fnd {m : Nat} {ks : List (List Int)} {s : Int} {r : List Int} : ∀ t, r ∈ fnd m ks s t ↔ ∃ j, j < t ∧ r ∈ lay m ks s j
  | 0 => ⟨fun h => (by cases h), fun ⟨j, h, _⟩ => (by omega)⟩
  | t + 1 => by
    show r ∈ fnd m ks s t ++ lay m ks s t ↔ _
    rw [List.mem_append, mem_fnd t]
    constructor
    · rintro (⟨j, h1, h2⟩ | h)
      · exact ⟨j, by omega, h2⟩
      · exact ⟨t, by omega, h⟩
    · rintro ⟨j, h1, h2⟩
      by_cases e : j = t
      · subst e; exact .inr h2
      · exact .inl ⟨j, by omega, h2⟩
theorem may_sub {ks : List (List Int)} {b : List Int} : mayB ks b = true ↔ ∃ k ∈ ks, ∀ i ∈ b, i ∈ k := by
  unfold mayB subI
  rw [List.any_eq_true]
  constructor
  · rintro ⟨k, hk, h⟩
    exact ⟨k, hk, fun i hi => of_decide_eq_true (List.all_eq_true.mp h i hi)⟩
  · rintro ⟨k, hk, h⟩
    exact ⟨k, hk, List.all_eq_true.mpr fun i hi => decide_eq_true (h i hi)⟩
/-- within a lot rows go on -/
theorem lay_within {m : Nat} {ks : List (List Int)} {s : Int} {k : List Int} (L : Lots m ks) (hs : s ∈ hsI m) (hk : k ∈ ks) (hsk : s ∈ k) : ∀ t, t < k.length → ∃ r ∈ lay m ks s t, ∀ i ∈ r, i ∈ k
  | 0, _ => ⟨[s], by simp [lay], fun i hi => by rcases List.mem_singleton.mp hi with rfl; exact hsk⟩
  | t + 1, h => by
    obtain ⟨r, h1, h2⟩ := lay_within L hs hk hsk t (by omega)
    have R := lay_ok hs t r h1
    have ex : ∃ x ∈ k, x ∉ r := by
      apply Classical.byContradiction
      intro hn
      have : ∀ x ∈ k, x ∈ r := fun x hx => Classical.byContradiction fun hx' => hn ⟨x, hx, hx'⟩
      have := nodup_le k r ((L.inc k hk).imp fun {a b} h => Int.ne_of_lt h) this
      have := R.len
      omega
    obtain ⟨x, x1, x2⟩ := ex
    refine ⟨r ++ [x], mem_nxR.mpr ⟨r, h1, may_sub.mpr ⟨k, hk, h2⟩, mem_extR.mpr ⟨x, (L.sub k hk).subset x1, x2, rfl⟩⟩, fun i hi => ?_⟩
    rcases List.mem_append.mp hi with hi | hi
    · exact h2 i hi
    · rcases List.mem_singleton.mp hi with rfl
      exact x1
/-- .. and one beyond it -/
theorem lay_beyond {m : Nat} {ks : List (List Int)} {s : Int} {k : List Int} (L : Lots m ks) (hs : s ∈ hsI m) (hk : k ∈ ks) (hsk : s ∈ k) (hl : k.length < m) : ∃ r, r ∈ lay m ks s k.length := by
  have h0 := List.length_pos_of_mem hsk
  obtain ⟨r, h1, h2⟩ := lay_within L hs hk hsk (k.length - 1) (by omega)
  have R := lay_ok hs (k.length - 1) r h1
  have ex : ∃ x ∈ hsI m, x ∉ r := by
    apply Classical.byContradiction
    intro hn
    have : ∀ x ∈ hsI m, x ∈ r := fun x hx => Classical.byContradiction fun hx' => hn ⟨x, hx, hx'⟩
    have := nodup_le (hsI m) r ((hsI_inc m).imp fun {a b} h => Int.ne_of_lt h) this
    rw [hsI_len] at this
    have := R.len
    omega
  obtain ⟨x, x1, x2⟩ := ex
  refine ⟨r ++ [x], ?_⟩
  rw [show k.length = (k.length - 1) + 1 by omega]
  exact mem_nxR.mpr ⟨r, h1, may_sub.mpr ⟨k, hk, h2⟩, mem_extR.mpr ⟨x, x1, x2, rfl⟩⟩
/-- one more only where a lot has all but the last -/
theorem lay_lot {m : Nat} {ks : List (List Int)} {s : Int} (hs : s ∈ hsI m) {t : Nat} {r : List Int} (h : r ∈ lay m ks s (t + 1)) : ∃ k ∈ ks, s ∈ k ∧ t + 1 ≤ k.length := by
  obtain ⟨row, h1, h2, _⟩ := mem_nxR.mp h
  have R := lay_ok hs t row h1
  obtain ⟨k, hk, h3⟩ := may_sub.mp h2
  refine ⟨k, hk, h3 s R.hd, ?_⟩
  have := nodup_le row k R.nd h3
  rw [R.len] at this
  exact this
/-- the most houses of a lot with the house -/
def most (ks : List (List Int)) (s : Int) : Int := maxI 0 ((ks.filter fun k => decide (s ∈ k)).map fun (k : List Int) => (k.length : Int))
theorem longest_row {m : Nat} {ks : List (List Int)} {s : Int} (L : Lots m ks) (h1 : 1 ≤ m) (hs : s ∈ hsI m) {n : Int} {ns : List Int} (e : (fnd m ks s m).map (fun (r : List Int) => (r.length : Int)) = n :: ns) : maxI n ns = min (m : Int) (1 + most ks s) := by
  obtain ⟨a1, a2, a3⟩ := maxI_mem ns n
  have am : maxI n ns ∈ (fnd m ks s m).map (fun (r : List Int) => (r.length : Int)) := by
    rw [e]
    rcases a1 with a1 | a1
    · rw [a1]; exact List.mem_cons_self
    · exact List.mem_cons_of_mem _ a1
  have ab : ∀ r ∈ fnd m ks s m, (r.length : Int) ≤ maxI n ns := fun r hr => by
    have : (r.length : Int) ∈ n :: ns := by rw [← e]; exact List.mem_map.mpr ⟨r, hr, rfl⟩
    rcases List.mem_cons.mp this with h | h
    · rw [h]; exact a2
    · exact a3 _ h
  obtain ⟨b1, b2, b3⟩ := maxI_mem ((ks.filter fun k => decide (s ∈ k)).map fun (k : List Int) => (k.length : Int)) 0
  have bm : ∀ k ∈ ks, s ∈ k → (k.length : Int) ≤ most ks s := fun k hk hsk => b3 _ (List.mem_map.mpr ⟨k, List.mem_filter.mpr ⟨hk, decide_eq_true hsk⟩, rfl⟩)
  have b2 : 0 ≤ most ks s := b2
  have b1 : most ks s = 0 ∨ ∃ k ∈ ks, s ∈ k ∧ (k.length : Int) = most ks s := by
    rcases b1 with b1 | b1
    · exact .inl b1
    · obtain ⟨k, hk, hk2⟩ := List.mem_map.mp b1
      have := List.mem_filter.mp hk
      exact .inr ⟨k, this.1, of_decide_eq_true this.2, hk2⟩
  obtain ⟨r0, hr0, er0⟩ := List.mem_map.mp am
  obtain ⟨j, hj, hr0⟩ := (mem_fnd m).mp hr0
  have R0 := lay_ok hs j r0 hr0
  have u1 : maxI n ns ≤ m := by
    have := nodup_len R0.nd R0.sub
    rw [← er0]
    omega
  have u2 : maxI n ns ≤ 1 + most ks s := by
    rw [← er0, R0.len]
    cases j with
    | zero => omega
    | succ t =>
      obtain ⟨k, hk, hsk, hl⟩ := lay_lot hs hr0
      have := bm k hk hsk
      omega
  have u3 : min (m : Int) (1 + most ks s) ≤ maxI n ns := by
    rcases b1 with b1 | ⟨k, hk, hsk, hl⟩
    · have := ab [s] ((mem_fnd m).mpr ⟨0, by omega, by simp [lay]⟩)
      rw [List.length_singleton] at this
      omega
    · by_cases hkm : k.length < m
      · obtain ⟨r, hr⟩ := lay_beyond L hs hk hsk hkm
        have := ab r ((mem_fnd m).mpr ⟨k.length, hkm, hr⟩)
        rw [(lay_ok hs _ r hr).len] at this
        omega
      · obtain ⟨r, hr, _⟩ := lay_within L hs hk hsk (m - 1) (by omega)
        have := ab r ((mem_fnd m).mpr ⟨m - 1, by omega, hr⟩)
        rw [(lay_ok hs _ r hr).len] at this
        omega
  omega
theorem sMaxL_i (n : Int) (ns : List Int) : sMaxL [.lst (PV.int n :: ns.map .int)] = some (.int (maxI n ns)) := by
  show (match intsOf ((n :: ns).map PV.int) with
    | some (n :: ns) => some (PV.int (maxI n ns))
    | _ => none) = _
  rw [intsOf_map]
theorem Q_rounds_ok {m : Nat} {ks : List (List Int)} {s : Int} (L : Lots m ks) (h1 : 1 ≤ m) (hm : m ≤ 6) (hs : s ∈ hsI m) : Q_rounds_of0 (.int (m : Int)) (lotsP ks) (.int s) = mP (.int (min (m : Int) (1 + most ks s))) := by
  have hk := L.few
  have hr := Q_rows_ok (ks := ks) hm (by omega) hs
  have hl := fnd_len hm ks (s := s) m hm
  have hl2 : m * 7776 ≤ 6 * 7776 := Nat.mul_le_mul_right _ hm
  have c : (compQ (fun _ => mP true) (fun (r : List Int) => mO (sLen [tupI r])) (fnd m ks s m) : M Unit (List PV)) = mP (((fnd m ks s m).map (fun (r : List Int) => (r.length : Int))).map .int) := by
    rw [compQ_all (fun (r : List Int) => PV.int (r.length : Int)) (fnd m ks s m) (fun r hr => by simp), List.map_map]
    rfl
  unfold Q_rounds_of0 QB_rounds_of0
  simp -implicitDefEqProofs [hr, short_ok, show (fnd m ks s m).length ≤ 16777216 by omega, -List.map_map]
  rw [show (fnd m ks s m).map (fun a => PV.int (a.length : Int)) = ((fnd m ks s m).map (fun (r : List Int) => (r.length : Int))).map .int by rw [List.map_map]; rfl]
  cases e : (fnd m ks s m).map (fun (r : List Int) => (r.length : Int)) with
  | nil =>
    have : [s] ∈ fnd m ks s m := (mem_fnd m).mpr ⟨0, by omega, by simp [lay]⟩
    rw [List.map_eq_nil_iff.mp e] at this
    cases this
  | cons n ns =>
    have h := longest_row L h1 hs e
    have hm := sMaxL_i n ns
    rw [List.map_cons, hm, h]
    rfl
end VL

set_option Elab.async false
set_option linter.all false
set_option autoImplicit false
set_option maxRecDepth 100000
set_option maxHeartbeats 4000000
/-! L9: all rows of numbers, how many fit -/
namespace VL
open PySem L2
noncomputable def QL1_law_all_rows (pmodulus_10 : PV) (l_9 : PV) : List PV → M Unit (Ct (PV) (PV)) := un1 (fun row_14 =>
    qS (qExt l_9 (qComp (pt1) (qArg sRng1 (qCons (mP pmodulus_10) (qNil))) (un1 (fun one_16 => mP true) mF) (un1 (fun one_16 => qX2 sAddX (mP row_14) (qDisp .tup (qCons (mP one_16) (qNil)))) mF)))
    (fun longer_15 => mP (.nx longer_15))) mF
noncomputable def QL2_law_all_rows (pmodulus_5 : PV) (l_4 : PV) : List PV → M Unit (Ct (PV) (PV)) := un1 (fun turn_7 =>
    qS (qSet (qDisp .lst (qNil)))
    (fun longer_8 => qS (qFor (pt1) (qSeq (mP l_4)) (QL1_law_all_rows pmodulus_5) longer_8)
    (fun (l_9 : PV) => qS (qSet (mP l_9))
    (fun rows_17 => mP (.nx rows_17))))) mF
noncomputable def QB_law_all_rows (modulus_1 : PV) (many_2 : PV) : M Unit (Ct Unit Unit) :=
    qS (qSet (qDisp .lst (qCons (qDisp .tup (qNil)) (qNil))))
    (fun rows_3 => qS (qFor (pt1) (qArg sRng1 (qCons (mP many_2) (qNil))) (QL2_law_all_rows modulus_1) rows_3)
    (fun (l_4 : PV) => qRet (mP l_4)))
noncomputable def Q_law_all_rows (modulus_1 : PV) (many_2 : PV) : M Unit PV := qEnd false (QB_law_all_rows modulus_1 many_2)
/-! ### how many rows fit -/
def allR (mo : Nat) : Nat → List (List Int)
  | 0 => [[]]
  | t + 1 => (allR mo t).flatMap fun row => (hsI mo).map fun x => row ++ [x]
theorem allR_len (mo : Nat) : ∀ t, (allR mo t).length = mo ^ t
  | 0 => rfl
  | t + 1 => by
    have ih := allR_len mo t
    show ((allR mo t).flatMap fun row => (hsI mo).map fun x => row ++ [x]).length = _
    rw [Nat.pow_succ, ← ih]
    generalize allR mo t = l
    induction l with
    | nil => simp
    | cons a l ih2 => rw [List.flatMap_cons, List.length_append, ih2, List.length_map, hsI_len, List.length_cons, Nat.succ_mul]; omega
theorem allR_row {mo : Nat} : ∀ t, ∀ r ∈ allR mo t, r.length = t
  | 0, r, h => by rcases List.mem_singleton.mp h with rfl; rfl
  | t + 1, r, h => by
    obtain ⟨row, h1, h2⟩ := List.mem_flatMap.mp h
    obtain ⟨x, _, rfl⟩ := List.mem_map.mp h2
    rw [List.length_append, allR_row t row h1, List.length_singleton]
def fitB (sn : Nat → Bool) (pv : Nat → Int) (row : List Int) : Bool := row.zipIdx.all fun a => !sn a.2 || decide (a.1 = pv a.2)
theorem fitB_app (sn : Nat → Bool) (pv : Nat → Int) (row : List Int) (x : Int) : fitB sn pv (row ++ [x]) = (fitB sn pv row && (!sn row.length || decide (x = pv row.length))) := by
  unfold fitB
  rw [List.zipIdx_append, List.all_append]
  simp
theorem countP_one {p : Int → Bool} {a : Int} : ∀ {l : List Int}, l.Nodup → a ∈ l → (∀ x ∈ l, p x = true ↔ x = a) → l.countP p = 1
  | [], _, h, _ => by cases h
  | x :: l, nd, h, hp => by
    obtain ⟨n1, n2⟩ := List.nodup_cons.mp nd
    rw [List.countP_cons]
    by_cases e : x = a
    · subst e
      rw [if_pos ((hp x List.mem_cons_self).mpr rfl), List.countP_eq_zero.mpr fun y hy hy2 => n1 (by rw [← (hp y (List.mem_cons_of_mem _ hy)).mp hy2]; exact hy)]
    · rw [if_neg fun h2 => e ((hp x List.mem_cons_self).mp h2)]
      rcases List.mem_cons.mp h with h | h
      · exact absurd h.symm e
      · rw [countP_one n2 h fun y hy => hp y (List.mem_cons_of_mem _ hy)]
theorem countP_flat {α β : Type} (p : β → Bool) (q : α → Bool) (f : α → List β) : ∀ l : List α, (∀ a ∈ l, (f a).countP p = if q a = true then 1 else 0) → (l.flatMap f).countP p = l.countP q
  | [], _ => rfl
  | a :: l, h => by
    rw [List.flatMap_cons, List.countP_append, h a List.mem_cons_self, countP_flat p q f l fun b hb => h b (List.mem_cons_of_mem _ hb), List.countP_cons]
    omega
theorem mem_hs {m : Nat} {i : Int} : i ∈ hsI m ↔ 0 ≤ i ∧ i < m := by
  unfold hsI
  rw [List.mem_map]
  constructor
  · rintro ⟨j, hj, rfl⟩
    have := List.mem_range.mp hj
    omega
  · rintro ⟨h0, h1⟩
    exact ⟨i.toNat, List.mem_range.mpr (by omega), by omega⟩
theorem hs_nodup (m : Nat) : (hsI m).Nodup := (hsI_inc m).imp fun {a b} h => Int.ne_of_lt h
def free (sn : Nat → Bool) (t : Nat) : Nat := ((List.range t).filter fun i => !sn i).length
def fixed (sn : Nat → Bool) (pv : Nat → Int) (t : Nat) : Int := (((List.range t).filter sn).map pv).sum
theorem free_succ (sn : Nat → Bool) (t : Nat) : free sn (t + 1) = free sn t + if sn t = true then 0 else 1 := by
  unfold free
  rw [List.range_succ, List.filter_append, List.length_append]
  cases h : sn t <;> simp [h]
theorem fixed_succ (sn : Nat → Bool) (pv : Nat → Int) (t : Nat) : fixed sn pv (t + 1) = fixed sn pv t + if sn t = true then pv t else 0 := by
  unfold fixed
  rw [List.range_succ, List.filter_append, List.map_append, List.sum_append]
  cases h : sn t <;> simp [h]
/-- all that fit -/
theorem fit_all {mo : Nat} {sn : Nat → Bool} {pv : Nat → Int} (hp : ∀ i, sn i = true → 0 ≤ pv i ∧ pv i < mo) : ∀ t, (allR mo t).countP (fitB sn pv) = mo ^ free sn t
  | 0 => rfl
  | t + 1 => by
    have ih := fit_all hp t
    show ((allR mo t).flatMap fun row => (hsI mo).map fun x => row ++ [x]).countP (fitB sn pv) = _
    rw [free_succ]
    cases hs : sn t with
    | true =>
      rw [if_pos rfl, Nat.add_zero, ← ih]
      refine countP_flat _ _ _ _ fun row hr => ?_
      rw [List.countP_map]
      have hl := allR_row t row hr
      cases hf : fitB sn pv row with
      | true =>
        rw [if_pos rfl]
        refine countP_one (hs_nodup mo) (mem_hs.mpr (hp t hs)) fun x _ => ?_
        show fitB sn pv (row ++ [x]) = true ↔ _
        rw [fitB_app, hf, hl, hs]
        simp
      | false =>
        rw [if_neg (by decide)]
        refine List.countP_eq_zero.mpr fun x _ => ?_
        show ¬ fitB sn pv (row ++ [x]) = true
        rw [fitB_app, hf]
        simp
    | false =>
      rw [if_neg (by decide), Nat.pow_succ, ← ih]
      have : ∀ l : List (List Int), (∀ r ∈ l, r.length = t) → (l.flatMap fun row => (hsI mo).map fun x => row ++ [x]).countP (fitB sn pv) = l.countP (fitB sn pv) * mo := by
        intro l
        induction l with
        | nil => intro _; simp
        | cons r l ih2 =>
          intro hl
          rw [List.flatMap_cons, List.countP_append, ih2 fun x hx => hl x (List.mem_cons_of_mem _ hx), List.countP_cons, List.countP_map, Nat.add_mul]
          have e : (hsI mo).countP (fitB sn pv ∘ fun x => r ++ [x]) = if fitB sn pv r = true then mo else 0 := by
            cases hf : fitB sn pv r with
            | true =>
              rw [if_pos rfl, List.countP_eq_length.mpr, hsI_len]
              intro x _
              show fitB sn pv (r ++ [x]) = true
              rw [fitB_app, hf, hl r List.mem_cons_self, hs]
              rfl
            | false =>
              rw [if_neg (by decide)]
              refine List.countP_eq_zero.mpr fun x _ => ?_
              show ¬ fitB sn pv (r ++ [x]) = true
              rw [fitB_app, hf]
              simp
          rw [e]
          split <;> omega
      exact this _ (allR_row t)
theorem sub_m (a b m : Int) : (a % m - b) % m = (a - b) % m := by rw [Int.sub_emod, Int.emod_emod_of_dvd _ (Int.dvd_refl _), ← Int.sub_emod]
theorem add_m (a b m : Int) : (a % m + b) % m = (a + b) % m := by rw [Int.add_emod, Int.emod_emod_of_dvd _ (Int.dvd_refl _), ← Int.add_emod]
def cntB (mo : Nat) (sn : Nat → Bool) (pv : Nat → Int) (c : Int) (row : List Int) : Bool := fitB sn pv row && decide (row.sum % (mo : Int) = c)
/-- .. by their sums -/
theorem fit_sum {mo : Nat} {sn : Nat → Bool} {pv : Nat → Int} (hm : 0 < mo) (hp : ∀ i, sn i = true → 0 ≤ pv i ∧ pv i < mo) : ∀ t (c : Int), 0 ≤ c → c < mo → (allR mo t).countP (cntB mo sn pv c) = if free sn t = 0 then (if c = fixed sn pv t % mo then 1 else 0) else mo ^ (free sn t - 1)
  | 0, c, c0, c1 => by
    show [[]].countP (cntB mo sn pv c) = if (0 : Nat) = 0 then (if c = (0 : Int) % mo then 1 else 0) else _
    rw [if_pos rfl, Int.zero_emod]
    have e : cntB mo sn pv c [] = decide ((0 : Int) % mo = c) := rfl
    rw [List.countP_cons, List.countP_nil, e, Int.zero_emod]
    by_cases h : c = 0
    · subst h; rfl
    · rw [if_neg h, decide_eq_false (fun e => h e.symm)]; rfl
  | t + 1, c, c0, c1 => by
    show ((allR mo t).flatMap fun row => (hsI mo).map fun x => row ++ [x]).countP (cntB mo sn pv c) = _
    rw [free_succ, fixed_succ]
    cases hs : sn t with
    | true =>
      rw [if_pos rfl, if_pos rfl, Nat.add_zero]
      have hq := hp t hs
      have ih := fit_sum hm hp t ((c - pv t) % mo) (Int.emod_nonneg _ (by omega)) (Int.emod_lt_of_pos _ (by omega))
      have e : ((allR mo t).flatMap fun row => (hsI mo).map fun x => row ++ [x]).countP (cntB mo sn pv c) = (allR mo t).countP (cntB mo sn pv ((c - pv t) % mo)) := by
        refine countP_flat _ _ _ _ fun row hr => ?_
        rw [List.countP_map]
        have hl := allR_row t row hr
        have ee : (row.sum + pv t) % (mo : Int) = c ↔ row.sum % (mo : Int) = (c - pv t) % mo := by
          constructor
          · intro h
            rw [← h, sub_m, Int.add_sub_cancel]
          · intro h
            rw [← add_m, h, add_m, Int.sub_add_cancel]
            exact Int.emod_eq_of_lt c0 c1
        by_cases hf : cntB mo sn pv ((c - pv t) % mo) row = true
        · rw [if_pos hf]
          have hf2 := Bool.and_eq_true_iff.mp hf
          have h2 := of_decide_eq_true hf2.2
          refine countP_one (hs_nodup mo) (mem_hs.mpr hq) fun x _ => ?_
          show (fitB sn pv (row ++ [x]) && decide ((row ++ [x]).sum % (mo : Int) = c)) = true ↔ _
          rw [fitB_app, hf2.1, hl, hs, List.sum_append]
          simp
          intro h
          subst h
          exact ee.mpr h2
        · rw [if_neg hf]
          refine List.countP_eq_zero.mpr fun x _ hx => hf ?_
          have hx2 : (fitB sn pv (row ++ [x]) && decide ((row ++ [x]).sum % (mo : Int) = c)) = true := hx
          rw [fitB_app, hl, hs, List.sum_append] at hx2
          simp at hx2
          obtain ⟨⟨h3, h4⟩, h5⟩ := hx2
          subst h4
          unfold cntB
          rw [h3, decide_eq_true (ee.mp h5)]
          rfl
      rw [e, ih]
      have ef : ((c - pv t) % (mo : Int) = fixed sn pv t % mo) ↔ c = (fixed sn pv t + pv t) % mo := by
        constructor
        · intro h
          rw [← add_m, ← h, add_m, Int.sub_add_cancel]
          exact (Int.emod_eq_of_lt c0 c1).symm
        · intro h
          rw [h, sub_m, Int.add_sub_cancel]
      simp only [ef]
    | false =>
      rw [if_neg (show ¬ (false = true) by decide), if_neg (show ¬ free sn t + 1 = 0 by omega), Nat.add_sub_cancel, ← fit_all hp t]
      refine countP_flat _ _ _ _ fun row hr => ?_
      rw [List.countP_map]
      have hl := allR_row t row hr
      cases hf : fitB sn pv row with
      | true =>
        rw [if_pos rfl]
        refine countP_one (a := (c - row.sum) % mo) (hs_nodup mo) (mem_hs.mpr ⟨Int.emod_nonneg _ (by omega), Int.emod_lt_of_pos _ (by omega)⟩) fun x hx => ?_
        have hx := mem_hs.mp hx
        show (fitB sn pv (row ++ [x]) && decide ((row ++ [x]).sum % (mo : Int) = c)) = true ↔ _
        rw [fitB_app, hf, hl, hs, List.sum_append]
        simp
        constructor
        · intro h
          rw [← h, sub_m, show row.sum + x - row.sum = x by omega]
          exact (Int.emod_eq_of_lt hx.1 hx.2).symm
        · intro h
          rw [h, Int.add_comm, add_m, show c - row.sum + row.sum = c by omega]
          exact Int.emod_eq_of_lt c0 c1
      | false =>
        rw [if_neg (by decide)]
        refine List.countP_eq_zero.mpr fun x _ => ?_
        show ¬ (fitB sn pv (row ++ [x]) && decide ((row ++ [x]).sum % (mo : Int) = c)) = true
        rw [fitB_app, hf]
        simp
/-! ### the rows, the lots -/
theorem rowx_c (mo : Nat) (row : List Int) (hr : row.length ≤ 1000) : (compQ (fun _ => mP true) (fun a => mO ((sAddX (tupI row) (.tup [.int a])).map RV.val)) (hsI mo) : M Unit (List PV)) = mP (((hsI mo).map fun x => row ++ [x]).map tupI) := by
  rw [compQ_all (fun a => tupI (row ++ [a])) (hsI mo) (fun a _ => by rw [tup_add row a (by omega)]; rfl), List.map_map]
  rfl
theorem rows_step {mo : Nat} {fs : List (List Int)} {row : List Int} (hm : mo ≤ 1000) (hr : row.length ≤ 1000) (hf : fs.length + mo ≤ 16777216) : (QL1_law_all_rows (.int (mo : Int)) (lotsL fs) [tupI row] : M Unit (Ct PV PV)) = mP (.nx (lotsL (fs ++ (hsI mo).map fun x => row ++ [x]))) := by
  have e := ext_lots fs ((hsI mo).map fun x => row ++ [x]) (by rw [List.length_map, hsI_len]; omega)
  have c := rowx_c mo row hr
  unfold QL1_law_all_rows
  simp -implicitDefEqProofs [sRng_nat (n := mo) (by omega), short_ok, hsI_len, show mo ≤ 16777216 by omega, c, e, -List.map_append, -List.map_map]
theorem Q_all_rows {mo n : Nat} (hm : mo ≤ 100) (h1 : 1 ≤ mo) (hn : n ≤ 100) (hp : mo ^ n ≤ 100000) : Q_law_all_rows (.int (mo : Int)) (.int (n : Int)) = mP (lotsL (allR mo n)) := by
  have lp : ∀ (xs : List Int) (t : Nat), t + xs.length ≤ n → (forM (fun t a => QL2_law_all_rows (.int (mo : Int)) t [.int a]) xs (lotsL (allR mo t)) : M Unit (Ct PV Unit)) = mP (.nx (lotsL (allR mo (t + xs.length)))) := by
    intro xs
    induction xs with
    | nil => intro t _; rfl
    | cons x xs ih =>
      intro t ht
      rw [List.length_cons] at ht ⊢
      have hl := allR_len mo t
      have hl2 : mo ^ t ≤ mo ^ n := Nat.pow_le_pow_right h1 (by omega)
      have h4 : (allR mo t).length * mo ≤ 100000 * 100 := Nat.mul_le_mul (by omega) hm
      have lp := layer_loop (β := PV) (m := mo) (body := fun t a => QL1_law_all_rows (.int (mo : Int)) t [a]) (go := fun row => (hsI mo).map fun x => row ++ [x]) (fun r => by rw [List.length_map, hsI_len]; omega) (fun fs row hr hf => rows_step (by omega) hr hf) (allR mo t) [] (by simp; omega) (fun r hr => by rw [allR_row t r hr]; omega)
      rw [List.nil_append] at lp
      have st : (QL2_law_all_rows (.int (mo : Int)) (lotsL (allR mo t)) [.int x] : M Unit (Ct PV PV)) = mP (.nx (lotsL (allR mo (t + 1)))) := by
        unfold QL2_law_all_rows
        simp -implicitDefEqProofs
        rw [show PV.lst [] = lotsL [] from rfl, lp]
        rfl
      rw [forM_nx (body := fun t a => QL2_law_all_rows (.int (mo : Int)) t [.int a]) st, ih (t + 1) (by omega), show t + 1 + xs.length = t + (xs.length + 1) by omega]
  have lp := lp (hsI n) 0 (by rw [hsI_len]; omega)
  rw [hsI_len, Nat.zero_add] at lp
  have lp' : (forM (fun t a => QL2_law_all_rows (.int (mo : Int)) t [.int a]) (hsI n) (.lst [.tup []]) : M Unit (Ct PV Unit)) = mP (.nx (lotsL (allR mo n))) := lp
  unfold Q_law_all_rows QB_law_all_rows
  simp -implicitDefEqProofs [sRng_nat (n := n) (by omega), short_ok, hsI_len, show n ≤ 16777216 by omega]
  rw [lp']
  rfl
theorem lots_step {fs : List (List Int)} {h : Int} (hf : fs.length ≤ 1000000) (hk : ∀ k ∈ fs, k.length ≤ 1000000) : (QL1_law_all_lots (lotsL fs) [.int h] : M Unit (Ct PV PV)) = mP (.nx (lotsL (fs ++ fs.map fun k => k ++ [h]))) := by
  have c : (compQ (fun _ => mP true) (fun k : List Int => mO ((sAddX (tupI k) (.tup [.int h])).map RV.val)) fs : M Unit (List PV)) = mP ((fs.map fun k => k ++ [h]).map tupI) := by
    rw [compQ_all (fun k : List Int => tupI (k ++ [h])) fs (fun k hk' => by rw [tup_add k h (by have := hk k hk'; omega)]; rfl), List.map_map]
    rfl
  have ad := lst_add fs (fs.map fun k => k ++ [h]) (by rw [List.length_map]; omega)
  unfold QL1_law_all_lots
  simp -implicitDefEqProofs [short_ok, show fs.length ≤ 16777216 by omega, c, ad, -List.map_append, -List.map_map]
theorem lots_grow : ∀ (hs : List Int) (fs : List (List Int)), fs.length * 2 ^ hs.length ≤ 1000000 → (∀ k ∈ fs, k.length + hs.length ≤ 1000) → ∃ gs, (forM (fun t a => QL1_law_all_lots t [.int a]) hs (lotsL fs) : M Unit (Ct PV Unit)) = mP (.nx (lotsL gs)) ∧ gs.length ≤ 1000000 ∧ ∀ k ∈ gs, k.length ≤ 1000
  | [], fs, h, hk => ⟨fs, rfl, by simpa using h, fun k hkk => by have := hk k hkk; simpa using this⟩
  | x :: hs, fs, h, hk => by
    rw [List.length_cons, Nat.pow_succ] at h
    have h0 : fs.length ≤ fs.length * (2 ^ hs.length * 2) := Nat.le_mul_of_pos_right _ (by have := Nat.two_pow_pos hs.length; omega)
    rw [forM_nx (body := fun t a => QL1_law_all_lots t [.int a]) (lots_step (by omega) fun k hkk => by have := hk k hkk; omega)]
    refine lots_grow hs _ ?_ ?_
    · rw [List.length_append, List.length_map, ← Nat.two_mul, Nat.mul_assoc, Nat.mul_comm 2, Nat.mul_assoc]
      exact h
    · intro k hkk
      rcases List.mem_append.mp hkk with hkk | hkk
      · have := hk k hkk
        rw [List.length_cons] at this
        omega
      · obtain ⟨k', hk', rfl⟩ := List.mem_map.mp hkk
        have := hk k' hk'
        rw [List.length_cons] at this
        rw [List.length_append, List.length_singleton]
        omega
theorem Q_all_lots {m : Nat} (hm : m ≤ 10) : ∃ gs : List (List Int), Q_law_all_lots (.lst ((hsI m).map .int)) = mP (lotsL gs) ∧ gs.length ≤ 1000000 ∧ ∀ k ∈ gs, k.length ≤ 1000 := by
  obtain ⟨gs, h1, h2, h3⟩ := lots_grow (hsI m) [[]] (by
    rw [hsI_len, List.length_singleton, Nat.one_mul]
    exact Nat.le_trans (Nat.pow_le_pow_right (by decide) hm) (by decide)) (fun k hk => by rcases List.mem_singleton.mp hk with rfl; rw [hsI_len]; simp; omega)
  refine ⟨gs, ?_, h2, h3⟩
  have h1' : (forM (fun t a => QL1_law_all_lots t [.int a]) (hsI m) (.lst [.tup []]) : M Unit (Ct PV Unit)) = mP (.nx (lotsL gs)) := h1
  unfold Q_law_all_lots QB_law_all_lots
  simp -implicitDefEqProofs
  rw [h1']
  rfl
end VL

set_option Elab.async false
set_option linter.all false
set_option autoImplicit false
set_option maxRecDepth 100000
set_option maxHeartbeats 4000000
namespace VP
open PySem L2 VL

def top (i : Nat) : Stmt := PySem.Challenge.pw_nolieholds_k67_whole_what_lots_see_tells.main.body.getD i (.Pass ⟨0, 0, 0, 0⟩)
abbrev FnP (K : PySem.W.Frag) (x : Str) (st : Stmt) (f : Addr) (fd : FuncData) : Prop := FunD K x x (defArgs st) (defBody st) (defScope st) [] [] f fd
abbrev s_law_box : Stmt := top 21
abbrev n_law_box : List Str := ["script", "k", "cell", "great"]
theorem sc_law_box : FnScope n_law_box ["script", "k"] (defScope s_law_box) := ⟨rfl, rfl, rfl, by decide +kernel, rfl, by decide +kernel, by decide +kernel⟩
abbrev s_law_take : Stmt := top 8
abbrev n_law_take : List Str := ["box", "many", "raw", "digit"]
theorem sc_law_take : FnScope n_law_take ["box", "many"] (defScope s_law_take) := ⟨rfl, rfl, rfl, by decide +kernel, rfl, by decide +kernel, by decide +kernel⟩
abbrev s_law_within : Stmt := top 11
abbrev n_law_within : List Str := ["one", "two", "house"]
theorem sc_law_within : FnScope n_law_within ["one", "two"] (defScope s_law_within) := ⟨rfl, rfl, rfl, by decide +kernel, rfl, by decide +kernel, by decide +kernel⟩
abbrev s_law_greatest : Stmt := top 12
abbrev n_law_greatest : List Str := ["lots", "unlike", "one", "two"]
theorem sc_law_greatest : FnScope n_law_greatest ["lots"] (defScope s_law_greatest) := ⟨rfl, rfl, rfl, by decide +kernel, rfl, by decide +kernel, by decide +kernel⟩
abbrev s_law_drawn_lot : Stmt := top 13
abbrev n_law_drawn_lot : List Str := ["box", "houses", "part", "house"]
theorem sc_law_drawn_lot : FnScope n_law_drawn_lot ["box", "houses", "part"] (defScope s_law_drawn_lot) := ⟨rfl, rfl, rfl, by decide +kernel, rfl, by decide +kernel, by decide +kernel⟩
abbrev s_law_pick : Stmt := top 9
abbrev n_law_pick : List Str := ["box", "some"]
theorem sc_law_pick : FnScope n_law_pick ["box", "some"] (defScope s_law_pick) := ⟨rfl, rfl, rfl, by decide +kernel, rfl, by decide +kernel, by decide +kernel⟩
abbrev s_law_liars : Stmt := top 14
abbrev n_law_liars : List Str := ["box", "many", "lots", "houses", "way", "size", "found", "house", "turn", "one"]
theorem sc_law_liars : FnScope n_law_liars ["box", "many"] (defScope s_law_liars) := ⟨rfl, rfl, rfl, by decide +kernel, rfl, by decide +kernel, by decide +kernel⟩
abbrev s_law_town : Stmt := top 17
abbrev n_law_town : List Str := ["box", "most", "many"]
theorem sc_law_town : FnScope n_law_town ["box", "most"] (defScope s_law_town) := ⟨rfl, rfl, rfl, by decide +kernel, rfl, by decide +kernel, by decide +kernel⟩
abbrev s_deal0 : Stmt := top 3
abbrev n_deal0 : List Str := ["liars", "modulus", "secret", "picks"]
theorem sc_deal0 : FnScope n_deal0 ["liars", "modulus", "secret", "picks"] (defScope s_deal0) := ⟨rfl, rfl, rfl, by decide +kernel, rfl, by decide +kernel, by decide +kernel⟩
abbrev s_law_all_lots : Stmt := top 15
abbrev n_law_all_lots : List Str := ["houses", "found", "house", "one"]
theorem sc_law_all_lots : FnScope n_law_all_lots ["houses"] (defScope s_law_all_lots) := ⟨rfl, rfl, rfl, by decide +kernel, rfl, by decide +kernel, by decide +kernel⟩
abbrev s_law_all_rows : Stmt := top 20
abbrev n_law_all_rows : List Str := ["modulus", "many", "rows", "turn", "longer", "row", "one"]
theorem sc_law_all_rows : FnScope n_law_all_rows ["modulus", "many"] (defScope s_law_all_rows) := ⟨rfl, rfl, rfl, by decide +kernel, rfl, by decide +kernel, by decide +kernel⟩
abbrev s_law_row : Stmt := top 18
abbrev n_law_row : List Str := ["box", "modulus", "many", "turn"]
theorem sc_law_row : FnScope n_law_row ["box", "modulus", "many"] (defScope s_law_row) := ⟨rfl, rfl, rfl, by decide +kernel, rfl, by decide +kernel, by decide +kernel⟩
abbrev s_dealings_for0 : Stmt := top 6
abbrev n_dealings_for0 : List Str := ["liars", "modulus", "rows", "total", "counts", "turn", "secret", "place", "piece"]
theorem sc_dealings_for0 : FnScope n_dealings_for0 ["liars", "modulus", "rows"] (defScope s_dealings_for0) := ⟨rfl, rfl, rfl, by decide +kernel, rfl, by decide +kernel, by decide +kernel⟩
abbrev s_law_may : Stmt := top 16
abbrev n_law_may : List Str := ["liars", "lot", "one"]
theorem sc_law_may : FnScope n_law_may ["liars", "lot"] (defScope s_law_may) := ⟨rfl, rfl, rfl, by decide +kernel, rfl, by decide +kernel, by decide +kernel⟩
abbrev s_law_like : Stmt := top 10
abbrev n_law_like : List Str := ["told", "due", "left", "turn", "one", "two"]
theorem sc_law_like : FnScope n_law_like ["told", "due"] (defScope s_law_like) := ⟨rfl, rfl, rfl, by decide +kernel, rfl, by decide +kernel, by decide +kernel⟩
abbrev s_law_view : Stmt := top 19
abbrev n_law_view : List Str := ["liars", "pieces", "lot", "rows", "place", "piece", "house"]
theorem sc_law_view : FnScope n_law_view ["liars", "pieces", "lot"] (defScope s_law_view) := ⟨rfl, rfl, rfl, by decide +kernel, rfl, by decide +kernel, by decide +kernel⟩
abbrev s_is_within0 : Stmt := top 1
abbrev n_is_within0 : List Str := ["one", "two", "house"]
theorem sc_is_within0 : FnScope n_is_within0 ["one", "two"] (defScope s_is_within0) := ⟨rfl, rfl, rfl, by decide +kernel, rfl, by decide +kernel, by decide +kernel⟩
abbrev s_seen0 : Stmt := top 5
abbrev n_seen0 : List Str := ["liars", "pieces", "lot", "place", "piece"]
theorem sc_seen0 : FnScope n_seen0 ["liars", "pieces", "lot"] (defScope s_seen0) := ⟨rfl, rfl, rfl, by decide +kernel, rfl, by decide +kernel, by decide +kernel⟩
abbrev s_secret_of0 : Stmt := top 4
abbrev n_secret_of0 : List Str := ["modulus", "pieces"]
theorem sc_secret_of0 : FnScope n_secret_of0 ["modulus", "pieces"] (defScope s_secret_of0) := ⟨rfl, rfl, rfl, by decide +kernel, rfl, by decide +kernel, by decide +kernel⟩
abbrev s_law0 : Stmt := top 22
abbrev n_law0 : List Str := ["script", "k", "box", "liars", "modulus", "secret", "pieces", "lots", "rows", "lot", "many", "row", "told", "mine", "counts", "piece", "turn", "one", "place", "other"]
theorem sc_law0 : FnScope n_law0 ["script"] (defScope s_law0) := ⟨rfl, rfl, rfl, by decide +kernel, rfl, by decide +kernel, by decide +kernel⟩
structure Facts (K : PySem.W.Frag) (mg : Str → Option Value) : Type where
  a_law_box : Addr
  d_law_box : FuncData
  F_law_box : FnP K "_law_box" s_law_box a_law_box d_law_box
  g_law_box : mg "_law_box" = some (.ref a_law_box)
  a_law_take : Addr
  d_law_take : FuncData
  F_law_take : FnP K "_law_take" s_law_take a_law_take d_law_take
  g_law_take : mg "_law_take" = some (.ref a_law_take)
  a_law_within : Addr
  d_law_within : FuncData
  F_law_within : FnP K "_law_within" s_law_within a_law_within d_law_within
  g_law_within : mg "_law_within" = some (.ref a_law_within)
  a_law_greatest : Addr
  d_law_greatest : FuncData
  F_law_greatest : FnP K "_law_greatest" s_law_greatest a_law_greatest d_law_greatest
  g_law_greatest : mg "_law_greatest" = some (.ref a_law_greatest)
  a_law_drawn_lot : Addr
  d_law_drawn_lot : FuncData
  F_law_drawn_lot : FnP K "_law_drawn_lot" s_law_drawn_lot a_law_drawn_lot d_law_drawn_lot
  g_law_drawn_lot : mg "_law_drawn_lot" = some (.ref a_law_drawn_lot)
  a_law_pick : Addr
  d_law_pick : FuncData
  F_law_pick : FnP K "_law_pick" s_law_pick a_law_pick d_law_pick
  g_law_pick : mg "_law_pick" = some (.ref a_law_pick)
  a_law_liars : Addr
  d_law_liars : FuncData
  F_law_liars : FnP K "_law_liars" s_law_liars a_law_liars d_law_liars
  g_law_liars : mg "_law_liars" = some (.ref a_law_liars)
  a_law_town : Addr
  d_law_town : FuncData
  F_law_town : FnP K "_law_town" s_law_town a_law_town d_law_town
  g_law_town : mg "_law_town" = some (.ref a_law_town)
  a_deal0 : Addr
  d_deal0 : FuncData
  F_deal0 : FnP K "deal" s_deal0 a_deal0 d_deal0
  g_deal0 : mg "deal" = some (.ref a_deal0)
  a_law_all_lots : Addr
  d_law_all_lots : FuncData
  F_law_all_lots : FnP K "_law_all_lots" s_law_all_lots a_law_all_lots d_law_all_lots
  g_law_all_lots : mg "_law_all_lots" = some (.ref a_law_all_lots)
  a_law_all_rows : Addr
  d_law_all_rows : FuncData
  F_law_all_rows : FnP K "_law_all_rows" s_law_all_rows a_law_all_rows d_law_all_rows
  g_law_all_rows : mg "_law_all_rows" = some (.ref a_law_all_rows)
  a_law_row : Addr
  d_law_row : FuncData
  F_law_row : FnP K "_law_row" s_law_row a_law_row d_law_row
  g_law_row : mg "_law_row" = some (.ref a_law_row)
  a_dealings_for0 : Addr
  d_dealings_for0 : FuncData
  F_dealings_for0 : FnP K "dealings_for" s_dealings_for0 a_dealings_for0 d_dealings_for0
  g_dealings_for0 : mg "dealings_for" = some (.ref a_dealings_for0)
  a_law_may : Addr
  d_law_may : FuncData
  F_law_may : FnP K "_law_may" s_law_may a_law_may d_law_may
  g_law_may : mg "_law_may" = some (.ref a_law_may)
  a_law_like : Addr
  d_law_like : FuncData
  F_law_like : FnP K "_law_like" s_law_like a_law_like d_law_like
  g_law_like : mg "_law_like" = some (.ref a_law_like)
  a_law_view : Addr
  d_law_view : FuncData
  F_law_view : FnP K "_law_view" s_law_view a_law_view d_law_view
  g_law_view : mg "_law_view" = some (.ref a_law_view)
  a_is_within0 : Addr
  d_is_within0 : FuncData
  F_is_within0 : FnP K "is_within" s_is_within0 a_is_within0 d_is_within0
  g_is_within0 : mg "is_within" = some (.ref a_is_within0)
  a_seen0 : Addr
  d_seen0 : FuncData
  F_seen0 : FnP K "seen" s_seen0 a_seen0 d_seen0
  g_seen0 : mg "seen" = some (.ref a_seen0)
  a_secret_of0 : Addr
  d_secret_of0 : FuncData
  F_secret_of0 : FnP K "secret_of" s_secret_of0 a_secret_of0 d_secret_of0
  g_secret_of0 : mg "secret_of" = some (.ref a_secret_of0)
  a_law0 : Addr
  d_law0 : FuncData
  F_law0 : FnP K "law" s_law0 a_law0 d_law0
  g_law0 : mg "law" = some (.ref a_law0)
  n_len : mg "len" = none
  n_abs : mg "abs" = none
  n_int : mg "int" = none
  n_sorted : mg "sorted" = none
  n_tuple : mg "tuple" = none
  n_set : mg "set" = none
  n_range : mg "range" = none
  n_max : mg "max" = none
  n_sum : mg "sum" = none
  n_isinstance : mg "isinstance" = none
  n_bool : mg "bool" = none
  n_str : mg "str" = none
  n_list : mg "list" = none
  n_zip : mg "zip" = none
  n_enumerate : mg "enumerate" = none
  n_all : mg "all" = none
  n_min : mg "min" = none
noncomputable def B_law_box : Sk → O :=
    seqF (setX (xV (fz (op2X sAddX (opv (op2 sMul (opv (cst (.int 6113))) (opv (shareF 1)))) (opv (cst (.int 8111)))))) 2)
    (seqF (ifS (tst (op2 (sOrd .Lt) (opv (shareF 1)) (opv (opA sLen (aCons (opv (shareF 0)) (aNil)))))) (seqF (setX (xV (opA sAbs (aCons (opv (opA sToInt (aCons (opv (op2 sIx (opv (shareF 0)) (opv (shareF 1)))) (aNil)))) (aNil)))) 2)
    (nxF)) (seqF (ifS (tst (op2 (sOrd .Gt) (opv (opA sLen (aCons (opv (shareF 0)) (aNil)))) (opv (cst (.int 0))))) (seqF (setX (xV (fz (op2X sAddX (opv (shareF 2)) (opv (op2 sMul (opv (op2 sMod (opv (opA sToInt (aCons (opv (opA sAbs (aCons (opv (opA sToInt (aCons (opv (op2 sIx (opv (shareF 0)) (opv (op2 sMod (opv (opA sToInt (aCons (opv (shareF 1)) (aNil)))) (opv (opA sLen (aCons (opv (shareF 0)) (aNil)))))))) (aNil)))) (aNil)))) (aNil)))) (opv (cst (.int 2147483563))))) (opv (cst (.int 61007)))))))) 2)
    (nxF)) (nxF))
    (nxF)))
    (seqF (setX (xV (ifF (tst (op2 (sOrd .GtE) (opv (shareF 2)) (opv (op2 sPow (opv (cst (.int 10))) (opv (cst (.int 18))))))) (shareF 2) (cst (.int 0)))) 3)
    (retX (xL (dispF .lst (aCons (opv (shareF 3)) (aCons (opv (fz (op2X sAddX (opv (op2 sMod (opv (opA sToInt (aCons (opv (fz (op2X sAddX (opv (op2 sMul (opv (op2 sMod (opv (opA sToInt (aCons (opv (shareF 2)) (aNil)))) (opv (cst (.int 2147483563))))) (opv (cst (.int 40014))))) (opv (op2 sMul (opv (cst (.int 8111))) (opv (shareF 1))))))) (aNil)))) (opv (cst (.int 2147483563))))) (opv (cst (.int 1)))))) (aNil))))))))
noncomputable def F_law_box : Fn := mkFn 2 4 B_law_box
noncomputable def B_law_take : Sk → O :=
    seqF (ifS (tst (op2 (sOrd .Gt) (opv (op2 sIx (opx 0) (opv (cst (.int 0))))) (opv (cst (.int 0))))) (seqF (setX (xV (op2 sMod (opv (opA sToInt (aCons (opv (op2 sIx (opx 0) (opv (cst (.int 0))))) (aNil)))) (opx 1))) 3)
    (seqF (stF 0 (op2 sDiv (opv (op2 sIx (opx 0) (opv (cst (.int 0))))) (opx 1)) (cst (.int 0)))
    (retX (moveX 3)))) (nxF))
    (seqF (setX (xV (op2 sMod (opv (opA sToInt (aCons (opv (fz (op2X sAddX (opv (op2 sMul (opv (op2 sIx (opx 0) (opv (cst (.int 1))))) (opv (cst (.int 39373))))) (opv (cst (.int 419)))))) (aNil)))) (opv (cst (.int 2147483647))))) 2)
    (seqF (stF 0 (fz (op2X sAddX (opv (op2 sMod (opv (opA sToInt (aCons (opv (fz (op2X sAddX (opv (op2 sMul (opx 2) (opv (cst (.int 40692))))) (opv (cst (.int 43)))))) (aNil)))) (opv (cst (.int 2147483399))))) (opv (cst (.int 1))))) (cst (.int 1)))
    (retX (xV (op2 sMod (opv (opA sToInt (aCons (opv (op2 sDiv (opv (fz (op2X sAddX (opv (op2 sMul (opx 2) (opv (cst (.int 2147483629))))) (opv (op2 sIx (opx 0) (opv (cst (.int 1)))))))) (opv (cst (.int 8209))))) (aNil)))) (opx 1))))))
noncomputable def F_law_take : Fn := mkFn 2 4 B_law_take
noncomputable def B_law_within : Sk → O :=
    retX (xV (op2 sEq (opv (compF (seqI (opv (shareF 0))) (gSet 2) (tst (op2 (sIn true) (opv (shareF 2)) (opv (shareF 1)))) (cst (.int 1)) [2])) (opv (dispF .lst (aNil)))))
noncomputable def F_law_within : Fn := mkFn 2 3 B_law_within
noncomputable def B_law_greatest : Sk → O :=
    seqF (setX (xV (opA sSortedSet (aCons (opv (shareF 0)) (aNil)))) 1)
    (retX (xV (opA sTuple (aCons (opv (compF (seqI (opv (shareF 1))) (gSet 2) (tst (op2 sEq (opv (compF (seqI (opv (shareF 1))) (gSet 3) (tAndF (tst (op2 sNe (opv (shareF 2)) (opv (shareF 3)))) (tst (fz (callX F_law_within (aCons (opv (shareF 2)) (aCons (opv (shareF 3)) (aNil))))))) (cst (.int 1)) [3])) (opv (dispF .lst (aNil))))) (shareF 2) [2])) (aNil)))))
noncomputable def F_law_greatest : Fn := mkFn 1 4 B_law_greatest
noncomputable def B_law_drawn_lot : Sk → O :=
    retX (xV (opA sTuple (aCons (opv (compF (seqI (opv (shareF 1))) (gSet 3) (tst (op2 sEq (opv (fz (callX F_law_take (aCons (opx 0) (aCons (opv (shareF 2)) (aNil)))))) (opv (cst (.int 0))))) (shareF 3) [3])) (aNil))))
noncomputable def F_law_drawn_lot : Fn := mkFn 3 4 B_law_drawn_lot
noncomputable def B_law_pick : Sk → O :=
    retX (xV (op2 sIx (opv (shareF 1)) (opv (fz (callX F_law_take (aCons (opx 0) (aCons (opv (opA sLen (aCons (opv (shareF 1)) (aNil)))) (aNil))))))))
noncomputable def F_law_pick : Fn := mkFn 2 2 B_law_pick
noncomputable def L1_law_liars : Sk → O :=
    seqF (setX (xV (fz (op2X sAddX (opv (shareF 6)) (opv (compF (seqI (opv (shareF 6))) (gSet 9) (tst (op2 (sOrd .Lt) (opv (opA sLen (aCons (opv (shareF 9)) (aNil)))) (opv (shareF 5)))) (fz (op2X sAddX (opv (shareF 9)) (opv (dispF .tup (aCons (opv (shareF 7)) (aNil)))))) [9]))))) 6)
    (nxF)
noncomputable def B_law_liars : Sk → O :=
    seqF (asgF (dispF .tup (aCons (opv (op1 sTupRg1 (opv (shareF 1)))) (aCons (opv (fz (callX F_law_take (aCons (opx 0) (aCons (opv (cst (.int 8))) (aNil)))))) (aNil)))) (gTupF 2 (gsCons (gSet 3) (gsCons (gSet 4) (gsNil)))))
    (seqF (ifS (tst (op2 sEq (opv (shareF 4)) (opv (cst (.int 0))))) (retX (xV (dispF .tup (aCons (opv (dispF .tup (aNil))) (aNil))))) (nxF))
    (seqF (ifS (tst (op2 (sOrd .Lt) (opv (shareF 4)) (opv (cst (.int 3))))) (seqF (setX (xV (fz (callX F_law_take (aCons (opx 0) (aCons (opv (fz (op2X sAddX (opv (shareF 1)) (opv (cst (.int 1)))))) (aNil)))))) 5)
    (seqF (setX (xV (dispF .lst (aCons (opv (dispF .tup (aNil))) (aNil)))) 6)
    (seqF (forF (seqI (opv (shareF 3))) (gSet 7) L1_law_liars)
    (retX (xV (fz (callX F_law_greatest (aCons (opv (fz (slX (opv (compF (seqI (opv (shareF 6))) (gSet 9) (tst (op2 sEq (opv (opA sLen (aCons (opv (shareF 9)) (aNil)))) (opv (shareF 5)))) (shareF 9) [9])) (pNone) (pSome (cst (.int 40)))))) (aNil))))))))) (nxF))
    (seqF (setX (xL (compF (argI sRng1 (aCons (opv (fz (op2X sAddX (opv (cst (.int 1))) (opv (fz (callX F_law_take (aCons (opx 0) (aCons (opv (cst (.int 5))) (aNil))))))))) (aNil))) (gSet 8) (yesF) (fz (callX F_law_drawn_lot (aCons (opx 0) (aCons (opv (shareF 3)) (aCons (opv (fz (callX F_law_pick (aCons (opx 0) (aCons (opv (dispF .lst (aCons (opv (cst (.int 2))) (aCons (opv (cst (.int 3))) (aCons (opv (cst (.int 4))) (aNil)))))) (aNil)))))) (aNil)))))) [8])) 2)
    (frzF 2 (retX (xV (fz (callX F_law_greatest (aCons (opv (shareF 2)) (aNil))))))))))
noncomputable def F_law_liars : Fn := mkFn 2 10 B_law_liars
noncomputable def B_law_town : Sk → O :=
    seqF (setX (xV (fz (op2X sAddX (opv (cst (.int 1))) (opv (opA sMax2 (aCons (opv (fz (callX F_law_take (aCons (opx 0) (aCons (opv (shareF 1)) (aNil)))))) (aCons (opv (fz (callX F_law_take (aCons (opx 0) (aCons (opv (shareF 1)) (aNil)))))) (aNil)))))))) 2)
    (retX (xV (dispF .tup (aCons (opv (shareF 2)) (aCons (opv (fz (slX (opv (fz (callX F_law_liars (aCons (opx 0) (aCons (opv (shareF 2)) (aNil)))))) (pNone) (pSome (cst (.int 10)))))) (aNil))))))
noncomputable def F_law_town : Fn := mkFn 2 3 B_law_town
noncomputable def B_deal0 : Sk → O :=
    retX (xV (fz (op2X sAddX (opv (opA sTuple (aCons (opv (shareF 3)) (aNil)))) (opv (dispF .tup (aCons (opv (op2 sMod (opv (opA sToInt (aCons (opv (op2 sSub (opv (shareF 2)) (opv (opA sSum2 (aCons (opv (shareF 3)) (aNil)))))) (aNil)))) (opv (shareF 1)))) (aNil)))))))
noncomputable def F_deal0 : Fn := mkFn 4 4 B_deal0
noncomputable def L1_law_all_lots : Sk → O :=
    seqF (setX (xV (fz (op2X sAddX (opv (shareF 1)) (opv (compF (seqI (opv (shareF 1))) (gSet 3) (yesF) (fz (op2X sAddX (opv (shareF 3)) (opv (dispF .tup (aCons (opv (shareF 2)) (aNil)))))) [3]))))) 1)
    (nxF)
noncomputable def B_law_all_lots : Sk → O :=
    seqF (setX (xV (dispF .lst (aCons (opv (dispF .tup (aNil))) (aNil)))) 1)
    (seqF (forF (seqI (opv (shareF 0))) (gSet 2) L1_law_all_lots)
    (retX (xV (shareF 1))))
noncomputable def F_law_all_lots : Fn := mkFn 1 4 B_law_all_lots
noncomputable def L1_law_all_rows : Sk → O :=
    seqF (exprF (mutF 4 lookAll sExtend (aCons (opv (compF (argI sRng1 (aCons (opv (shareF 0)) (aNil))) (gSet 6) (yesF) (fz (op2X sAddX (opv (shareF 5)) (opv (dispF .tup (aCons (opv (shareF 6)) (aNil)))))) [6])) (aNil))))
    (nxF)
noncomputable def L2_law_all_rows : Sk → O :=
    seqF (setX (xL (dispF .lst (aNil))) 4)
    (seqF (forF (seqI (opv (shareF 2))) (gSet 5) L1_law_all_rows)
    (frzF 4 (seqF (setX (xV (shareF 4)) 2)
    (nxF))))
noncomputable def B_law_all_rows : Sk → O :=
    seqF (setX (xV (dispF .lst (aCons (opv (dispF .tup (aNil))) (aNil)))) 2)
    (seqF (forF (argI sRng1 (aCons (opv (shareF 1)) (aNil))) (gSet 3) L2_law_all_rows)
    (retX (xV (shareF 2))))
noncomputable def F_law_all_rows : Fn := mkFn 2 7 B_law_all_rows
noncomputable def B_law_row : Sk → O :=
    retX (xV (opA sTuple (aCons (opv (compF (argI sRng1 (aCons (opv (shareF 2)) (aNil))) (gSet 3) (yesF) (fz (callX F_law_take (aCons (opx 0) (aCons (opv (shareF 1)) (aNil))))) [3])) (aNil))))
noncomputable def F_law_row : Fn := mkFn 3 4 B_law_row
noncomputable def L1_dealings_for0 : Sk → O :=
    seqF (setX (xV (repL (dispF .lst (aCons (opv (opA sSum2 (aCons (opv (shareF 4)) (aNil)))) (aNil))) (opv (shareF 1)))) 4)
    (nxF)
noncomputable def B_dealings_for0 : Sk → O :=
    seqF (setX (xV (op2 sMod (opv (opA sSum2 (aCons (opv (compF (seqI (opv (shareF 2))) (gTupF 2 (gsCons (gSet 7) (gsCons (gSet 8) (gsNil)))) (yesF) (shareF 8) [7, 8])) (aNil)))) (opv (shareF 1)))) 3)
    (seqF (setX (xL (compF (argI sRng1 (aCons (opv (shareF 1)) (aNil))) (gSet 6) (yesF) (ifF (tst (op2 sEq (opv (shareF 6)) (opv (shareF 3)))) (cst (.int 1)) (cst (.int 0))) [6])) 4)
    (frzF 4 (seqF (forF (argI sRng1 (aCons (opv (op2 sSub (opv (opA sLen (aCons (opv (shareF 0)) (aNil)))) (opv (opA sLen (aCons (opv (shareF 2)) (aNil)))))) (aNil))) (gSet 5) L1_dealings_for0)
    (retX (xV (opA sTuple (aCons (opv (shareF 4)) (aNil))))))))
noncomputable def F_dealings_for0 : Fn := mkFn 3 9 B_dealings_for0
noncomputable def B_law_may : Sk → O :=
    retX (xV (op2 sNe (opv (compF (seqI (opv (shareF 0))) (gSet 2) (tst (fz (callX F_law_within (aCons (opv (shareF 1)) (aCons (opv (shareF 2)) (aNil)))))) (cst (.int 1)) [2])) (opv (dispF .lst (aNil)))))
noncomputable def F_law_may : Fn := mkFn 2 3 B_law_may
noncomputable def L1_law_like : Sk → O :=
    seqF (ifS (tst (op2 sEq (opx 2) (opv (dispF .lst (aNil))))) (retX (xV (cst (.bl true)))) (nxF))
    (seqF (asgF (mutF 2 agV sPop aNil) (gTupF 2 (gsCons (gSet 4) (gsCons (gSet 5) (gsNil)))))
    (ifS (tst (op2 (sIs false) (opx 5) (opv (cst .non)))) (ifS (tst (op2 (sIs true) (opx 4) (opv (cst .non)))) (retX (xV (cst (.bl false)))) (nxF)) (ifS (tst (isiF .bool (opx 5))) (ifS (tOrF (tNotF (tst (isiF .bool (opx 4)))) (tst (op2 sNe (opx 4) (opx 5)))) (retX (xV (cst (.bl false)))) (nxF)) (ifS (tst (isiF .tuple (opx 5))) (seqF (ifS (tOrF (tNotF (tst (isiF .tuple (opx 4)))) (tst (op2 sNe (opv (opA sLen (aCons (opx 4) (aNil)))) (opv (opA sLen (aCons (opx 5) (aNil))))))) (retX (xV (cst (.bl false)))) (nxF))
    (exprF (mutF 2 lookAll sExtend (aCons (opv (opA sListZip (aCons (opx 4) (aCons (opx 5) (aNil))))) (aNil))))) (ifS (tst (isiF .str (opx 5))) (ifS (tOrF (tNotF (tst (isiF .str (opx 4)))) (tst (op2 sNe (opx 4) (opx 5)))) (retX (xV (cst (.bl false)))) (nxF)) (ifS (tOrF (tNotF (tst (isiF .int (opx 4)))) (tOrF (tst (isiF .bool (opx 4))) (tst (op2 sNe (opx 4) (opx 5))))) (retX (xV (cst (.bl false)))) (nxF)))))))
noncomputable def B_law_like : Sk → O :=
    seqF (setX (xL (dispF .lst (aCons (opv (dispF .tup (aCons (opv (shareF 0)) (aCons (opv (shareF 1)) (aNil))))) (aNil)))) 2)
    (seqF (forF (argI sRng1 (aCons (opv (cst (.int 1000000))) (aNil))) (gSet 3) L1_law_like)
    (retX (xV (cst (.bl false)))))
noncomputable def F_law_like : Fn := mkFn 2 6 B_law_like
noncomputable def L1_law_view : Sk → O :=
    seqF (ifS (tst (op2 sNe (opv (compF (seqI (opv (shareF 2))) (gSet 6) (tst (op2 (sIn true) (opv (shareF 6)) (opv (op2 sIx (opv (shareF 0)) (opv (shareF 4)))))) (cst (.int 1)) [6])) (opv (dispF .lst (aNil))))) (seqF (exprF (mutF 3 agV sAppend (aCons (opv (dispF .tup (aCons (opv (shareF 4)) (aCons (opv (shareF 5)) (aNil))))) (aNil))))
    (nxF)) (nxF))
    (nxF)
noncomputable def B_law_view : Sk → O :=
    seqF (setX (xL (dispF .lst (aNil))) 3)
    (seqF (forF (enumI (opv (shareF 1))) (gTupF 2 (gsCons (gSet 4) (gsCons (gSet 5) (gsNil)))) L1_law_view)
    (frzF 3 (retX (xV (opA sTuple (aCons (opv (shareF 3)) (aNil)))))))
noncomputable def F_law_view : Fn := mkFn 3 7 B_law_view
noncomputable def B_is_within0 : Sk → O :=
    retX (xV (opA sAll (aCons (opv (compF (seqI (opv (shareF 0))) (gSet 2) (yesF) (op2 (sIn false) (opv (shareF 2)) (opv (shareF 1))) [2])) (aNil))))
noncomputable def F_is_within0 : Fn := mkFn 2 3 B_is_within0
noncomputable def B_seen0 : Sk → O :=
    retX (xV (opA sTuple (aCons (opv (compF (enumI (opv (shareF 1))) (gTupF 2 (gsCons (gSet 3) (gsCons (gSet 4) (gsNil)))) (tNotF (tst (fz (callX F_is_within0 (aCons (opv (shareF 2)) (aCons (opv (op2 sIx (opv (shareF 0)) (opv (shareF 3)))) (aNil))))))) (dispF .tup (aCons (opv (shareF 3)) (aCons (opv (shareF 4)) (aNil)))) [3, 4])) (aNil))))
noncomputable def F_seen0 : Fn := mkFn 3 5 B_seen0
noncomputable def B_secret_of0 : Sk → O :=
    retX (xV (op2 sMod (opv (opA sSum2 (aCons (opv (shareF 1)) (aNil)))) (opv (shareF 0))))
noncomputable def F_secret_of0 : Fn := mkFn 2 2 B_secret_of0
noncomputable def L1_law0 : Sk → O :=
    seqF (ifS (tst (op2 sEq (opv (compF (seqI (opv (shareF 13))) (gTupF 2 (gsCons (gSet 18) (gsCons (gSet 15) (gsNil)))) (tst (op2 sNe (opv (op2 sIx (opv (shareF 11)) (opv (shareF 18)))) (opv (shareF 15)))) (cst (.int 1)) [18, 15])) (opv (dispF .lst (aNil))))) (seqF (augStF 14 (op2 sMod (opv (opA sToInt (aCons (opv (opA sSum2 (aCons (opv (shareF 11)) (aNil)))) (aNil)))) (opv (shareF 4))) (1))
    (nxF)) (nxF))
    (nxF)
noncomputable def L2_law0 : Sk → O :=
    seqF (asgXF [13, 14] [xV (fz (callX F_law_view (aCons (opv (shareF 3)) (aCons (opv (shareF 6)) (aCons (opv (shareF 9)) (aNil)))))), xL (repL (dispF .lst (aCons (opv (cst (.int 0))) (aNil))) (opv (shareF 4)))])
    (seqF (forF (seqI (opv (shareF 8))) (gSet 11) L1_law0)
    (frzF 14 (seqF (setX (xV (fz (callX F_dealings_for0 (aCons (opv (shareF 3)) (aCons (opv (shareF 4)) (aCons (opv (fz (callX F_seen0 (aCons (opv (shareF 3)) (aCons (opv (shareF 6)) (aCons (opv (shareF 9)) (aNil))))))) (aNil))))))) 12)
    (seqF (ifS (tOrF (tNotF (tst (fz (callX F_law_like (aCons (opv (shareF 12)) (aCons (opv (opA sTuple (aCons (opv (shareF 14)) (aNil)))) (aNil))))))) (tst (op2 (sOrd .Lt) (opv (op2 sIx (opv (shareF 12)) (opv (shareF 5)))) (opv (cst (.int 1)))))) (retX (xV (cst (.bl false)))) (nxF))
    (seqF (ifS (tst (fz (callX F_law_may (aCons (opv (shareF 3)) (aCons (opv (shareF 9)) (aNil)))))) (seqF (ifS (tst (op2 sNe (opv (compF (seqI (opv (shareF 12))) (gSet 17) (tst (op2 sNe (opv (shareF 17)) (opv (op2 sIx (opv (shareF 12)) (opv (cst (.int 0))))))) (cst (.int 1)) [17])) (opv (dispF .lst (aNil))))) (retX (xV (cst (.bl false)))) (nxF))
    (nxF)) (seqF (ifS (tst (op2 sNe (opv (compF (enumI (opv (shareF 12))) (gTupF 2 (gsCons (gSet 19) (gsCons (gSet 17) (gsNil)))) (tst (op2 sNe (opv (shareF 17)) (opv (ifF (tst (op2 sEq (opv (shareF 19)) (opv (shareF 5)))) (cst (.int 1)) (cst (.int 0)))))) (cst (.int 1)) [19, 17])) (opv (dispF .lst (aNil))))) (retX (xV (cst (.bl false)))) (nxF))
    (nxF)))
    (nxF))))))
noncomputable def L3_law0 : Sk → O :=
    seqF (setX (callX F_law_box (aCons (opv (shareF 0)) (aCons (opv (shareF 1)) (aNil)))) 2)
    (seqF (asgF (fz (callX F_law_town (aCons (opx 2) (aCons (opv (cst (.int 6))) (aNil))))) (gTupF 2 (gsCons (gSet 10) (gsCons (gSet 3) (gsNil)))))
    (seqF (setX (xV (fz (slX (opv (shareF 3)) (pNone) (pSome (fz (callX F_law_pick (aCons (opx 2) (aCons (opv (dispF .lst (aCons (opv (cst (.int 1))) (aCons (opv (cst (.int 2))) (aCons (opv (cst (.int 3))) (aCons (opv (cst (.int 4))) (aCons (opv (cst (.int 6))) (aNil)))))))) (aNil))))))))) 3)
    (seqF (setX (xV (fz (callX F_law_pick (aCons (opx 2) (aCons (opv (ifF (tst (op2 (sOrd .Lt) (opv (opA sLen (aCons (opv (shareF 3)) (aNil)))) (opv (cst (.int 3))))) (dispF .lst (aCons (opv (cst (.int 2))) (aCons (opv (cst (.int 3))) (aCons (opv (cst (.int 5))) (aNil))))) (ifF (tst (op2 (sOrd .Lt) (opv (opA sLen (aCons (opv (shareF 3)) (aNil)))) (opv (cst (.int 5))))) (dispF .lst (aCons (opv (cst (.int 2))) (aCons (opv (cst (.int 3))) (aNil)))) (dispF .lst (aCons (opv (cst (.int 2))) (aNil)))))) (aNil)))))) 4)
    (seqF (setX (xV (fz (callX F_law_take (aCons (opx 2) (aCons (opv (shareF 4)) (aNil)))))) 5)
    (seqF (setX (xV (fz (callX F_deal0 (aCons (opv (shareF 3)) (aCons (opv (shareF 4)) (aCons (opv (shareF 5)) (aCons (opv (fz (callX F_law_row (aCons (opx 2) (aCons (opv (shareF 4)) (aCons (opv (op2 sSub (opv (opA sLen (aCons (opv (shareF 3)) (aNil)))) (opv (cst (.int 1))))) (aNil))))))) (aNil)))))))) 6)
    (seqF (ifS (tOrF (tNotF (tst (isiF .tuple (opv (shareF 6))))) (tst (op2 sNe (opv (opA sLen (aCons (opv (shareF 6)) (aNil)))) (opv (opA sLen (aCons (opv (shareF 3)) (aNil))))))) (retX (xV (cst (.bl false)))) (nxF))
    (seqF (ifS (tst (op2 sNe (opv (compF (seqI (opv (shareF 6))) (gSet 15) (tOrF (tNotF (tst (isiF .int (opv (shareF 15))))) (tOrF (tst (isiF .bool (opv (shareF 15)))) (tOrF (tst (op2 (sOrd .Lt) (opv (shareF 15)) (opv (cst (.int 0))))) (tst (op2 (sOrd .GtE) (opv (shareF 15)) (opv (shareF 4))))))) (cst (.int 1)) [15])) (opv (dispF .lst (aNil))))) (retX (xV (cst (.bl false)))) (nxF))
    (seqF (ifS (tOrF (tst (op2 sNe (opv (op2 sMod (opv (opA sToInt (aCons (opv (opA sSum2 (aCons (opv (shareF 6)) (aNil)))) (aNil)))) (opv (shareF 4)))) (opv (shareF 5)))) (tNotF (tst (fz (callX F_law_like (aCons (opv (fz (callX F_secret_of0 (aCons (opv (shareF 4)) (aCons (opv (shareF 6)) (aNil)))))) (aCons (opv (shareF 5)) (aNil)))))))) (retX (xV (cst (.bl false)))) (nxF))
    (seqF (setX (xV (fz (callX F_law_all_lots (aCons (opv (op1 sLstRg1 (opv (shareF 10)))) (aNil))))) 7)
    (seqF (ifS (tst (op2 (sOrd .Gt) (opv (opA sLen (aCons (opv (shareF 7)) (aNil)))) (opv (cst (.int 32))))) (seqF (setX (xL (compF (argI sRng1 (aCons (opv (cst (.int 20))) (aNil))) (gSet 16) (yesF) (fz (callX F_law_drawn_lot (aCons (opx 2) (aCons (opv (op1 sLstRg1 (opv (shareF 10)))) (aCons (opv (fz (callX F_law_pick (aCons (opx 2) (aCons (opv (dispF .lst (aCons (opv (cst (.int 1))) (aCons (opv (cst (.int 2))) (aCons (opv (cst (.int 3))) (aNil)))))) (aNil)))))) (aNil)))))) [16])) 7)
    (frzF 7 (nxF))) (nxF))
    (seqF (setX (xV (fz (callX F_law_all_rows (aCons (opv (shareF 4)) (aCons (opv (opA sLen (aCons (opv (shareF 3)) (aNil)))) (aNil)))))) 8)
    (seqF (forF (seqI (opv (shareF 7))) (gSet 9) L2_law0)
    (nxF)))))))))))))
noncomputable def B_law0 : Sk → O :=
    seqF (forF (argI sRng1 (aCons (opv (opA sMax2 (aCons (opv (cst (.int 3))) (aCons (opv (opA sMin2 (aCons (opv (opA sLen (aCons (opv (shareF 0)) (aNil)))) (aCons (opv (cst (.int 5))) (aNil))))) (aNil))))) (aNil))) (gSet 1) L3_law0)
    (retX (xV (cst (.bl true))))
noncomputable def F_law0 : Fn := mkFn 1 20 B_law0
noncomputable def QB_law_box (script_1 : PV) (k_2 : PV) : M Unit (Ct Unit Unit) :=
    qS (qSet (qX2 sAddX (qOp2 sMul (mP (.int 6113)) (mP k_2)) (mP (.int 8111))))
    (fun cell_3 => qS (qIf (qT (qOp2 (sOrd .Lt) (mP k_2) (qOpA sLen (qCons (mP script_1) (qNil))))) (qS (qSet (qOpA sAbs (qCons (qOpA sToInt (qCons (qOp2 sIx (mP script_1) (mP k_2)) (qNil))) (qNil))))
    (fun cell_5 => mP (.nx cell_5))) (qS (qIf (qT (qOp2 (sOrd .Gt) (qOpA sLen (qCons (mP script_1) (qNil))) (mP (.int 0)))) (qS (qSet (qX2 sAddX (mP cell_3) (qOp2 sMul (qOp2 sMod (qOpA sToInt (qCons (qOpA sAbs (qCons (qOpA sToInt (qCons (qOp2 sIx (mP script_1) (qOp2 sMod (qOpA sToInt (qCons (mP k_2) (qNil))) (qOpA sLen (qCons (mP script_1) (qNil))))) (qNil))) (qNil))) (qNil))) (mP (.int 2147483563))) (mP (.int 61007)))))
    (fun cell_7 => mP (.nx cell_7))) (mP (.nx cell_3)))
    (fun (j_6 : PV) => mP (.nx j_6))))
    (fun (j_4 : PV) => qS (qSet (qIf (qT (qOp2 (sOrd .GtE) (mP j_4) (qOp2 sPow (mP (.int 10)) (mP (.int 18))))) (mP j_4) (mP (.int 0))))
    (fun great_8 => qRet (qDisp .lst (qCons (mP great_8) (qCons (qX2 sAddX (qOp2 sMod (qOpA sToInt (qCons (qX2 sAddX (qOp2 sMul (qOp2 sMod (qOpA sToInt (qCons (mP j_4) (qNil))) (mP (.int 2147483563))) (mP (.int 40014))) (qOp2 sMul (mP (.int 8111)) (mP k_2))) (qNil))) (mP (.int 2147483563))) (mP (.int 1))) (qNil)))))))
noncomputable def Q_law_box (script_1 : PV) (k_2 : PV) : M Unit PV := qEnd true (QB_law_box script_1 k_2)
theorem fq_law_box : FnV true F_law_box (un2 Q_law_box mF) := fnV2 (by decide) fun script_1 k_2 =>
    (ss_seq (ss_setV 2 (sm_fz (sm_x2 (sm_opv (sm_op2 (sm_opv (sm_cst _)) (sm_opv (sm_var 1 (fun _ => rfl))))) (sm_opv (sm_cst _)))) (fun _ => rfl) (fun _ => ⟨_, rfl, rfl⟩))
    (fun cell_3 => ss_seq (ss_if (Gn := (fun (j_4 : PV) (s : Unit) => [.v script_1, .v k_2, .v j_4, .n])) (sm_tst (sm_op2 (sm_opv (sm_var 1 (fun _ => rfl))) (sm_opv (sm_opA (sm_ocons (sm_opv (sm_var 0 (fun _ => rfl))) (sm_onil)))))) (fun _ => rfl) (ss_seq (ss_setV 2 (sm_opA (sm_ocons (sm_opv (sm_opA (sm_ocons (sm_opv (sm_op2 (sm_opv (sm_var 0 (fun _ => rfl))) (sm_opv (sm_var 1 (fun _ => rfl))))) (sm_onil)))) (sm_onil))) (fun _ => rfl) (fun _ => ⟨_, rfl, rfl⟩))
    (fun cell_5 => ss_nx cell_5 (fun _ => .e (.e (.e (.e (.nil))))))) (ss_seq (ss_if (Gn := (fun (j_6 : PV) (s : Unit) => [.v script_1, .v k_2, .v j_6, .n])) (sm_tst (sm_op2 (sm_opv (sm_opA (sm_ocons (sm_opv (sm_var 0 (fun _ => rfl))) (sm_onil)))) (sm_opv (sm_cst _)))) (fun _ => rfl) (ss_seq (ss_setV 2 (sm_fz (sm_x2 (sm_opv (sm_var 2 (fun _ => rfl))) (sm_opv (sm_op2 (sm_opv (sm_op2 (sm_opv (sm_opA (sm_ocons (sm_opv (sm_opA (sm_ocons (sm_opv (sm_opA (sm_ocons (sm_opv (sm_op2 (sm_opv (sm_var 0 (fun _ => rfl))) (sm_opv (sm_op2 (sm_opv (sm_opA (sm_ocons (sm_opv (sm_var 1 (fun _ => rfl))) (sm_onil)))) (sm_opv (sm_opA (sm_ocons (sm_opv (sm_var 0 (fun _ => rfl))) (sm_onil)))))))) (sm_onil)))) (sm_onil)))) (sm_onil)))) (sm_opv (sm_cst _)))) (sm_opv (sm_cst _)))))) (fun _ => rfl) (fun _ => ⟨_, rfl, rfl⟩))
    (fun cell_7 => ss_nx cell_7 (fun _ => .e (.e (.e (.e (.nil))))))) (ss_nx cell_3 (fun _ => .e (.e (.e (.e (.nil)))))))
    (fun (j_6 : PV) => ss_nx j_6 (fun _ => .e (.e (.e (.e (.nil))))))))
    (fun (j_4 : PV) => ss_seq (ss_setV 3 (sm_ifv (sm_tst (sm_op2 (sm_opv (sm_var 2 (fun _ => rfl))) (sm_opv (sm_op2 (sm_opv (sm_cst _)) (sm_opv (sm_cst _)))))) (sm_var 2 (fun _ => rfl)) (sm_cst _)) (fun _ => rfl) (fun _ => ⟨_, rfl, rfl⟩))
    (fun great_8 => ss_ret (y_l (sm_xL (sm_disp (sm_acons (sm_var 3 (fun _ => rfl)) (sm_acons (sm_fz (sm_x2 (sm_opv (sm_op2 (sm_opv (sm_opA (sm_ocons (sm_opv (sm_fz (sm_x2 (sm_opv (sm_op2 (sm_opv (sm_op2 (sm_opv (sm_opA (sm_ocons (sm_opv (sm_var 2 (fun _ => rfl))) (sm_onil)))) (sm_opv (sm_cst _)))) (sm_opv (sm_cst _)))) (sm_opv (sm_op2 (sm_opv (sm_cst _)) (sm_opv (sm_var 1 (fun _ => rfl)))))))) (sm_onil)))) (sm_opv (sm_cst _)))) (sm_opv (sm_cst _)))) (sm_anil)))))) (fun _ => rfl)))))
theorem take_all (a c k : Int) (hm : 0 < k) (hl : k.natAbs.log2 < 9000) : ∃ outs, F_law_take [.io (.lst [.int a, .int c]), .val (.int k)] = .ok (.v (.int (takeR a c k))) (.io (.lst [.int (takeA a c k), .int (takeC a c k)]) :: outs) ∧ 1 ≤ outs.length := by
  unfold F_law_take B_law_take takeR takeA takeC
  by_cases h : 0 < a
  · simp [h, sMod_int hm, sDiv_int hm hl, ixN]
  · simp [h, sMod_int, hm, sDiv_int, sMul_right, ixN, show (8209 : Nat).log2 < 9000 from by decide]
theorem fq_law_take : FnB false F_law_take (un1 Q_law_take mF) := fun xs b r b' e => by
  match xs, e with
  | [], e => cases e
  | _ :: _ :: _, e => cases e
  | [m], e =>
    have e' : Q_law_take m b = some (r, b') := e
    unfold Q_law_take at e'
    split at e'
    · rename_i a c k _
      split at e'
      · rename_i hk
        cases e'
        obtain ⟨outs, h1, h2⟩ := take_all a c k hk.1 hk.2
        exact ⟨_, outs, h1, h2, rfl⟩
      · cases e'
    · cases e'

theorem fq_law_within : FnV false F_law_within (un2 Q_law_within mF) := fnV2 (by decide) fun one_1 two_2 =>
    (ss_ret (y_v (sm_op2 (sm_opv (qcomp (is := [2]) (sm_seq (sm_var 0 (fun _ => rfl))) (tg_set 2) rfl (fun _ => rfl) ⟨.inl (fun _ => rfl), trivial⟩ (u1m fun house_3 => sm_tst (sm_op2 (sm_opv (sm_var 2 (fun _ => rfl))) (sm_opv (sm_var 1 (fun _ => rfl))))) (u1m fun house_3 => sm_cst _))) (sm_opv (sm_disp (sm_anil))))) (fun _ => rfl))
theorem fq_law_greatest : FnV false F_law_greatest (un1 Q_law_greatest mF) := fnV1 (by decide) fun lots_1 =>
    (ss_seq (ss_setV 1 (sm_opA (sm_ocons (sm_opv (sm_var 0 (fun _ => rfl))) (sm_onil))) (fun _ => rfl) (fun _ => ⟨_, rfl, rfl⟩))
    (fun unlike_2 => ss_ret (y_v (sm_opA (sm_ocons (sm_opv (qcomp (is := [2]) (sm_seq (sm_var 1 (fun _ => rfl))) (tg_set 2) rfl (fun _ => rfl) ⟨.inl (fun _ => rfl), trivial⟩ (u1m fun one_3 => sm_tst (sm_op2 (sm_opv (qcomp (is := [3]) (sm_seq (sm_var 1 (fun _ => rfl))) (tg_set 3) rfl (fun _ => rfl) ⟨.inl (fun _ => rfl), trivial⟩ (u1m fun two_4 => sm_tand (sm_tst (sm_op2 (sm_opv (sm_var 2 (fun _ => rfl))) (sm_opv (sm_var 3 (fun _ => rfl))))) (sm_tst (sm_fz (sm_call fq_law_within (sm_acons (sm_var 2 (fun _ => rfl)) (sm_acons (sm_var 3 (fun _ => rfl)) (sm_anil))))))) (u1m fun two_4 => sm_cst _))) (sm_opv (sm_disp (sm_anil))))) (u1m fun one_3 => sm_var 2 (fun _ => rfl)))) (sm_onil)))) (fun _ => rfl)))
theorem fq_law_drawn_lot : FnB false F_law_drawn_lot (un2 Q_law_drawn_lot mF) := fnB2 (by decide) fun houses_1 part_2 =>
    (ss_ret (y_v (sm_opA (sm_ocons (sm_opv (qcomp (is := [3]) (sm_seq (sm_var 1 (fun _ => rfl))) (tg_set 3) rfl (fun _ => rfl) ⟨.inl (fun _ => rfl), trivial⟩ (u1m fun house_3 => sm_tst (sm_op2 (sm_opv (sm_fz (sm_callB 0 fq_law_take (.io (fun _ => rfl) (fun _ _ => rfl)) (sm_acons (sm_var 2 (fun _ => rfl)) (sm_anil))))) (sm_opv (sm_cst _)))) (u1m fun house_3 => sm_var 3 (fun _ => rfl)))) (sm_onil)))) (fun _ => ⟨rfl, rfl⟩))
theorem fq_law_pick : FnB false F_law_pick (un1 Q_law_pick mF) := fnB1 (by decide) fun some_1 =>
    (ss_ret (y_v (sm_op2 (sm_opv (sm_var 1 (fun _ => rfl))) (sm_opv (sm_fz (sm_callB 0 fq_law_take (.io (fun _ => rfl) (fun _ _ => rfl)) (sm_acons (sm_opA (sm_ocons (sm_opv (sm_var 1 (fun _ => rfl))) (sm_onil))) (sm_anil))))))) (fun _ => ⟨rfl, rfl⟩))
theorem fq_law_liars : FnB false F_law_liars (un1 Q_law_liars mF) := fnB1 (by decide) fun many_1 =>
    (ss_seq (qasg (is := [3, 4]) (sm_disp (sm_acons (sm_op1 (sm_opv (sm_var 1 (fun _ => rfl)))) (sm_acons (sm_fz (sm_callB 0 fq_law_take (.io (fun _ => rfl) (fun _ _ => rfl)) (sm_acons (sm_cst _) (sm_anil)))) (sm_anil)))) (tg_tup (n := 2) (tgs_cons (tg_set 3) (tgs_cons (tg_set 4) (tgs_nil))) (ptCons_len (ptCons_len (ptNil_len)))) (fun _ => ⟨rfl, rfl⟩) (fun _ => rfl))
    (u2s (fun houses_2 way_3 => ss_seq (ss_if (Gn := (fun (_ : Unit) (s : PV) => [.i s, .v many_1, .n, .v houses_2, .v way_3, .n, .n, .n, .n, .n])) (sm_tst (sm_op2 (sm_opv (sm_var 4 (fun _ => rfl))) (sm_opv (sm_cst _)))) (fun _ => ⟨rfl, rfl⟩) (ss_ret (y_v (sm_disp (sm_acons (sm_disp (sm_anil)) (sm_anil)))) (fun _ => ⟨rfl, rfl⟩)) (ss_nx () (fun _ => .e (.e (.e (.e (.e (.e (.e (.e (.e (.e (.nil)))))))))))))
    (fun (_ : Unit) => ss_seq (ss_if (Gn := (fun (_ : Unit) (s : PV) => [.i s, .v many_1, .n, .v houses_2, .v way_3, .n, .n, .n, .n, .n])) (sm_tst (sm_op2 (sm_opv (sm_var 4 (fun _ => rfl))) (sm_opv (sm_cst _)))) (fun _ => ⟨rfl, rfl⟩) (ss_seq (ss_setV 5 (sm_fz (sm_callB 0 fq_law_take (.io (fun _ => rfl) (fun _ _ => rfl)) (sm_acons (sm_fz (sm_x2 (sm_opv (sm_var 1 (fun _ => rfl))) (sm_opv (sm_cst _)))) (sm_anil)))) (fun _ => ⟨rfl, rfl⟩) (fun _ => ⟨_, rfl, rfl⟩))
    (fun size_6 => ss_seq (ss_setV 6 (sm_disp (sm_acons (sm_disp (sm_anil)) (sm_anil))) (fun _ => ⟨rfl, rfl⟩) (fun _ => ⟨_, rfl, rfl⟩))
    (fun found_7 => ss_seq (qfor (is := [7]) (fun (l_8 : PV) (s : PV) => [.i s, .v many_1, .n, .v houses_2, .v way_3, .v size_6, .v l_8, .n, .n, .n]) found_7 (sm_seq (sm_var 3 (fun _ => rfl))) (tg_set 7) (fun _ => ⟨rfl, rfl⟩) (fun _ => .e (.e (.e (.e (.e (.e (.e (.e (.e (.e (.nil))))))))))) (fun _ _ => rfl) (fun (l_8 : PV) => u1b fun house_13 => ss_seq (ss_setV 6 (sm_fz (sm_x2 (sm_opv (sm_var 6 (fun _ => rfl))) (sm_opv (qcomp (is := [9]) (sm_seq (sm_var 6 (fun _ => rfl))) (tg_set 9) rfl (fun _ => rfl) ⟨.inl (fun _ => rfl), trivial⟩ (u1m fun one_15 => sm_tst (sm_op2 (sm_opv (sm_opA (sm_ocons (sm_opv (sm_var 9 (fun _ => rfl))) (sm_onil)))) (sm_opv (sm_var 5 (fun _ => rfl))))) (u1m fun one_15 => sm_fz (sm_x2 (sm_opv (sm_var 9 (fun _ => rfl))) (sm_opv (sm_disp (sm_acons (sm_var 7 (fun _ => rfl)) (sm_anil)))))))))) (fun _ => ⟨rfl, rfl⟩) (fun _ => ⟨_, rfl, rfl⟩))
    (fun found_14 => ss_nx found_14 (fun _ => .e (.e (.e (.e (.e (.e (.e (.n rfl (.e (.e (.nil))))))))))))))
    (fun (l_8 : PV) => ss_ret (y_v (sm_fz (sm_call fq_law_greatest (sm_acons (sm_fz (sm_sl (sm_opv (qcomp (is := [9]) (sm_seq (sm_var 6 (fun _ => rfl))) (tg_set 9) rfl (fun _ => rfl) ⟨.inl (fun _ => rfl), trivial⟩ (u1m fun one_16 => sm_tst (sm_op2 (sm_opv (sm_opA (sm_ocons (sm_opv (sm_var 9 (fun _ => rfl))) (sm_onil)))) (sm_opv (sm_var 5 (fun _ => rfl))))) (u1m fun one_16 => sm_var 9 (fun _ => rfl)))) (sm_pnone) (sm_psome (sm_cst _)))) (sm_anil))))) (fun _ => ⟨rfl, rfl⟩))))) (ss_nx () (fun _ => .e (.e (.e (.e (.e (.e (.e (.e (.e (.e (.nil)))))))))))))
    (fun (_ : Unit) => ss_seq (ss_setL 2 (sm_xL (qcomp (is := [8]) (sm_argI (sm_acons (sm_fz (sm_x2 (sm_opv (sm_cst _)) (sm_opv (sm_fz (sm_callB 0 fq_law_take (.io (fun _ => rfl) (fun _ _ => rfl)) (sm_acons (sm_cst _) (sm_anil))))))) (sm_anil))) (tg_set 8) rfl (fun _ => rfl) ⟨.inl (fun _ => rfl), trivial⟩ (u1m fun turn_18 => sm_yes) (u1m fun turn_18 => sm_fz (sm_callB 0 fq_law_drawn_lot (.io (fun _ => rfl) (fun _ _ => rfl)) (sm_acons (sm_var 3 (fun _ => rfl)) (sm_acons (sm_fz (sm_callB 0 fq_law_pick (.io (fun _ => rfl) (fun _ _ => rfl)) (sm_acons (sm_disp (sm_acons (sm_cst _) (sm_acons (sm_cst _) (sm_acons (sm_cst _) (sm_anil))))) (sm_anil)))) (sm_anil))))))) (fun _ => ⟨rfl, rfl⟩) (fun _ => ⟨_, rfl, rfl⟩))
    (fun lots_17 => ss_frz 2 (fun _ => rfl) (ss_ret (y_v (sm_fz (sm_call fq_law_greatest (sm_acons (sm_var 2 (fun _ => rfl)) (sm_anil))))) (fun _ => ⟨rfl, rfl⟩))))))))
theorem fq_law_town : FnB false F_law_town (un1 Q_law_town mF) := fnB1 (by decide) fun most_1 =>
    (ss_seq (ss_setV 2 (sm_fz (sm_x2 (sm_opv (sm_cst _)) (sm_opv (sm_opA (sm_ocons (sm_opv (sm_fz (sm_callB 0 fq_law_take (.io (fun _ => rfl) (fun _ _ => rfl)) (sm_acons (sm_var 1 (fun _ => rfl)) (sm_anil))))) (sm_ocons (sm_opv (sm_fz (sm_callB 0 fq_law_take (.io (fun _ => rfl) (fun _ _ => rfl)) (sm_acons (sm_var 1 (fun _ => rfl)) (sm_anil))))) (sm_onil))))))) (fun _ => ⟨rfl, rfl⟩) (fun _ => ⟨_, rfl, rfl⟩))
    (fun many_2 => ss_ret (y_v (sm_disp (sm_acons (sm_var 2 (fun _ => rfl)) (sm_acons (sm_fz (sm_sl (sm_opv (sm_fz (sm_callB 0 fq_law_liars (.io (fun _ => rfl) (fun _ _ => rfl)) (sm_acons (sm_var 2 (fun _ => rfl)) (sm_anil))))) (sm_pnone) (sm_psome (sm_cst _)))) (sm_anil))))) (fun _ => ⟨rfl, rfl⟩)))
theorem fq_deal0 : FnV false F_deal0 (un4 Q_deal0 mF) := fnV4 (by decide) fun liars_1 modulus_2 secret_3 picks_4 =>
    (ss_ret (y_v (sm_fz (sm_x2 (sm_opv (sm_opA (sm_ocons (sm_opv (sm_var 3 (fun _ => rfl))) (sm_onil)))) (sm_opv (sm_disp (sm_acons (sm_op2 (sm_opv (sm_opA (sm_ocons (sm_opv (sm_op2 (sm_opv (sm_var 2 (fun _ => rfl))) (sm_opv (sm_opA (sm_ocons (sm_opv (sm_var 3 (fun _ => rfl))) (sm_onil)))))) (sm_onil)))) (sm_opv (sm_var 1 (fun _ => rfl)))) (sm_anil))))))) (fun _ => rfl))
theorem fq_law_all_lots : FnV false F_law_all_lots (un1 Q_law_all_lots mF) := fnV1 (by decide) fun houses_1 =>
    (ss_seq (ss_setV 1 (sm_disp (sm_acons (sm_disp (sm_anil)) (sm_anil))) (fun _ => rfl) (fun _ => ⟨_, rfl, rfl⟩))
    (fun found_2 => ss_seq (qfor (is := [2]) (fun (l_3 : PV) (s : Unit) => [.v houses_1, .v l_3, .n, .n]) found_2 (sm_seq (sm_var 0 (fun _ => rfl))) (tg_set 2) (fun _ => rfl) (fun _ => .e (.e (.e (.e (.nil))))) (fun _ _ => rfl) (fun (l_3 : PV) => u1b fun house_5 => ss_seq (ss_setV 1 (sm_fz (sm_x2 (sm_opv (sm_var 1 (fun _ => rfl))) (sm_opv (qcomp (is := [3]) (sm_seq (sm_var 1 (fun _ => rfl))) (tg_set 3) rfl (fun _ => rfl) ⟨.inl (fun _ => rfl), trivial⟩ (u1m fun one_7 => sm_yes) (u1m fun one_7 => sm_fz (sm_x2 (sm_opv (sm_var 3 (fun _ => rfl))) (sm_opv (sm_disp (sm_acons (sm_var 2 (fun _ => rfl)) (sm_anil)))))))))) (fun _ => rfl) (fun _ => ⟨_, rfl, rfl⟩))
    (fun found_6 => ss_nx found_6 (fun _ => .e (.e (.n rfl (.e (.nil))))))))
    (fun (l_3 : PV) => ss_ret (y_v (sm_var 1 (fun _ => rfl))) (fun _ => rfl))))
theorem fq_law_all_rows : FnV false F_law_all_rows (un2 Q_law_all_rows mF) := fnV2 (by decide) fun modulus_1 many_2 =>
    (ss_seq (ss_setV 2 (sm_disp (sm_acons (sm_disp (sm_anil)) (sm_anil))) (fun _ => rfl) (fun _ => ⟨_, rfl, rfl⟩))
    (fun rows_3 => ss_seq (qfor (is := [3]) (fun (l_4 : PV) (s : Unit) => [.v modulus_1, .v many_2, .v l_4, .n, .n, .n, .n]) rows_3 (sm_argI (sm_acons (sm_var 1 (fun _ => rfl)) (sm_anil))) (tg_set 3) (fun _ => rfl) (fun _ => .e (.e (.e (.e (.e (.e (.e (.nil)))))))) (fun _ _ => rfl) (fun (l_4 : PV) => u1b fun turn_7 => ss_seq (ss_setL 4 (sm_xL (sm_disp (sm_anil))) (fun _ => rfl) (fun _ => ⟨_, rfl, rfl⟩))
    (fun longer_8 => ss_seq (qfor (is := [5]) (fun (l_9 : PV) (s : Unit) => [.v modulus_1, .v many_2, .v l_4, .v turn_7, .o l_9, .n, .n]) longer_8 (sm_seq (sm_var 2 (fun _ => rfl))) (tg_set 5) (fun _ => rfl) (fun _ => .e (.e (.e (.e (.e (.e (.e (.nil)))))))) (fun _ _ => rfl) (fun (l_9 : PV) => u1b fun row_14 => ss_seq (qext 4 (sm_opv (qcomp (is := [6]) (sm_argI (sm_acons (sm_var 0 (fun _ => rfl)) (sm_anil))) (tg_set 6) rfl (fun _ => rfl) ⟨.inl (fun _ => rfl), trivial⟩ (u1m fun one_16 => sm_yes) (u1m fun one_16 => sm_fz (sm_x2 (sm_opv (sm_var 5 (fun _ => rfl))) (sm_opv (sm_disp (sm_acons (sm_var 6 (fun _ => rfl)) (sm_anil)))))))) (fun _ => rfl) (fun _ => rfl))
    (fun longer_15 => ss_nx longer_15 (fun _ => .e (.e (.e (.e (.e (.n rfl (.e (.nil)))))))))))
    (fun (l_9 : PV) => ss_frz 4 (fun _ => rfl) (ss_seq (ss_setV 2 (sm_var 4 (fun _ => rfl)) (fun _ => rfl) (fun _ => ⟨_, rfl, rfl⟩))
    (fun rows_17 => ss_nx rows_17 (fun _ => .e (.e (.e (.n rfl (.n rfl (.e (.e (.nil))))))))))))))
    (fun (l_4 : PV) => ss_ret (y_v (sm_var 2 (fun _ => rfl))) (fun _ => rfl))))
theorem fq_law_row : FnB false F_law_row (un2 Q_law_row mF) := fnB2 (by decide) fun modulus_1 many_2 =>
    (ss_ret (y_v (sm_opA (sm_ocons (sm_opv (qcomp (is := [3]) (sm_argI (sm_acons (sm_var 2 (fun _ => rfl)) (sm_anil))) (tg_set 3) rfl (fun _ => rfl) ⟨.inl (fun _ => rfl), trivial⟩ (u1m fun turn_3 => sm_yes) (u1m fun turn_3 => sm_fz (sm_callB 0 fq_law_take (.io (fun _ => rfl) (fun _ _ => rfl)) (sm_acons (sm_var 1 (fun _ => rfl)) (sm_anil)))))) (sm_onil)))) (fun _ => ⟨rfl, rfl⟩))
theorem fq_dealings_for0 : FnV false F_dealings_for0 (un3 Q_dealings_for0 mF) := fnV3 (by decide) fun liars_1 modulus_2 rows_3 =>
    (ss_seq (ss_setV 3 (sm_op2 (sm_opv (sm_opA (sm_ocons (sm_opv (qcomp (is := [7, 8]) (sm_seq (sm_var 2 (fun _ => rfl))) (tg_tup (n := 2) (tgs_cons (tg_set 7) (tgs_cons (tg_set 8) (tgs_nil))) (ptCons_len (ptCons_len (ptNil_len)))) rfl (fun _ => rfl) ⟨.inl (fun _ => rfl), ⟨.inl (fun _ => rfl), trivial⟩⟩ (u2m fun place_5 piece_6 => sm_yes) (u2m fun place_5 piece_6 => sm_var 8 (fun _ => rfl)))) (sm_onil)))) (sm_opv (sm_var 1 (fun _ => rfl)))) (fun _ => rfl) (fun _ => ⟨_, rfl, rfl⟩))
    (fun total_4 => ss_seq (ss_setL 4 (sm_xL (qcomp (is := [6]) (sm_argI (sm_acons (sm_var 1 (fun _ => rfl)) (sm_anil))) (tg_set 6) rfl (fun _ => rfl) ⟨.inl (fun _ => rfl), trivial⟩ (u1m fun secret_8 => sm_yes) (u1m fun secret_8 => sm_ifv (sm_tst (sm_op2 (sm_opv (sm_var 6 (fun _ => rfl))) (sm_opv (sm_var 3 (fun _ => rfl))))) (sm_cst _) (sm_cst _)))) (fun _ => rfl) (fun _ => ⟨_, rfl, rfl⟩))
    (fun counts_7 => ss_frz 4 (fun _ => rfl) (ss_seq (qfor (is := [5]) (fun (l_9 : PV) (s : Unit) => [.v liars_1, .v modulus_2, .v rows_3, .v total_4, .v l_9, .n, .n, .n, .n]) counts_7 (sm_argI (sm_acons (sm_op2 (sm_opv (sm_opA (sm_ocons (sm_opv (sm_var 0 (fun _ => rfl))) (sm_onil)))) (sm_opv (sm_opA (sm_ocons (sm_opv (sm_var 2 (fun _ => rfl))) (sm_onil))))) (sm_anil))) (tg_set 5) (fun _ => rfl) (fun _ => .e (.e (.e (.e (.e (.e (.e (.e (.e (.nil)))))))))) (fun _ _ => rfl) (fun (l_9 : PV) => u1b fun turn_14 => ss_seq (ss_setV 4 (sm_rep (sm_disp (sm_acons (sm_opA (sm_ocons (sm_opv (sm_var 4 (fun _ => rfl))) (sm_onil))) (sm_anil))) (sm_opv (sm_var 1 (fun _ => rfl)))) (fun _ => rfl) (fun _ => ⟨_, rfl, rfl⟩))
    (fun counts_15 => ss_nx counts_15 (fun _ => .e (.e (.e (.e (.e (.n rfl (.e (.e (.e (.nil)))))))))))))
    (fun (l_9 : PV) => ss_ret (y_v (sm_opA (sm_ocons (sm_opv (sm_var 4 (fun _ => rfl))) (sm_onil)))) (fun _ => rfl))))))
theorem fq_law_may : FnV false F_law_may (un2 Q_law_may mF) := fnV2 (by decide) fun liars_1 lot_2 =>
    (ss_ret (y_v (sm_op2 (sm_opv (qcomp (is := [2]) (sm_seq (sm_var 0 (fun _ => rfl))) (tg_set 2) rfl (fun _ => rfl) ⟨.inl (fun _ => rfl), trivial⟩ (u1m fun one_3 => sm_tst (sm_fz (sm_call fq_law_within (sm_acons (sm_var 1 (fun _ => rfl)) (sm_acons (sm_var 2 (fun _ => rfl)) (sm_anil)))))) (u1m fun one_3 => sm_cst _))) (sm_opv (sm_disp (sm_anil))))) (fun _ => rfl))
theorem like_step {a b u v : Sl} {i : Int} {zs : List PV} {y : PV} (ho : ∀ z ∈ zs ++ [y], okL 30 z = true) (hs : szPs (zs ++ [y]) ≤ 1000000) (hu : slUnp (some u) = true) (hv : slUnp (some v) = true) :
    ∃ ys : List PV, L1_law_like [a, b, .own (.lst ((zs ++ [y]).map prP)), .val (.int i), u, v] = .nx [a, b, .own (.lst (ys.map prP)), .val (.int i), .val y, .val y] ∧ (∀ z ∈ ys, okL 30 z = true) ∧ szPs ys + 1 = szPs (zs ++ [y]) := by
  have hq : sEq (.lst ((zs ++ [y]).map prP)) (.lst []) = some (.bl false) := by
    unfold sEq
    rw [if_pos ⟨prs_pOk (by decide) ho, rfl⟩, List.map_append]
    cases zs <;> rfl
  have hy := ho y (List.mem_append_right _ List.mem_cons_self)
  have hy2 := okL_pOk (by decide) hy
  have hz : ∀ z ∈ zs, okL 30 z = true := fun z hz => ho z (List.mem_append_left _ hz)
  have hp := like_pop zs y
  rw [szPs_app] at hs ⊢
  cases y with
  | non => exact ⟨zs, by simp -implicitDefEqProofs [L1_law_like, hq, hp, hu, hv, -List.map_append, isTy, isTyK, kdOf], hz, rfl⟩
  | bl c => exact ⟨zs, by simp -implicitDefEqProofs [L1_law_like, hq, hp, hu, hv, -List.map_append, isTy, isTyK, kdOf], hz, rfl⟩
  | int c => exact ⟨zs, by simp -implicitDefEqProofs [L1_law_like, hq, hp, hu, hv, -List.map_append, isTy, isTyK, kdOf], hz, rfl⟩
  | tup xs =>
    have e1 : szPs [PV.tup xs] = szPs xs + 1 := by simp [szPs, szP]
    have l1 := szPs_len zs
    have l2 := szPs_len xs
    have he : sExtend (.lst (zs.map prP)) [.lst (xs.map prP)] = some (.non, .lst ((zs ++ xs).map prP)) := by
      show (if (zs.map prP).length + (xs.map prP).length ≤ 16777216 then some (PV.non, PV.lst (zs.map prP ++ xs.map prP)) else none) = _
      rw [if_pos (by rw [List.length_map, List.length_map]; omega), ← List.map_append]
    refine ⟨zs ++ xs, ?_, fun z hzz => ?_, by rw [szPs_app, e1]; omega⟩
    · simp -implicitDefEqProofs [L1_law_like, hq, hp, hu, hv, -List.map_append, isTy, isTyK, kdOf, sListZip, seqP, zipP_self, he]
    · rcases List.mem_append.mp hzz with q | q
      · exact hz z q
      · exact okL_succ 29 z (List.all_eq_true.mp (show xs.all (okL 29) = true from hy) z q)
  | str c => cases hy
  | lst c => cases hy
  | dk c => cases hy
  | dt c => cases hy
  | scr c => cases hy
theorem snoc_or : ∀ ys : List PV, ys = [] ∨ ∃ zs y, ys = zs ++ [y]
  | [] => .inl rfl
  | x :: xs => .inr (by
    rcases snoc_or xs with h | ⟨zs, y, h⟩
    · exact ⟨[], x, by rw [h]; rfl⟩
    · exact ⟨x :: zs, y, by rw [h]; rfl⟩)
theorem like_loop : ∀ (m : Nat) (i : Int) (ys : List PV) (a b t u v : Sl), slUnp (some t) = true → slUnp (some u) = true → slUnp (some v) = true → (∀ y ∈ ys, okL 30 y = true) → szPs ys < m → m ≤ 1000000 →
    ∃ t' u' v', loopF (gSet 3) L1_law_like (rngP i m) [a, b, .own (.lst (ys.map prP)), t, u, v] = .rt (.v (.bl true)) [a, b, .own (.lst []), t', u', v']
  | 0, i, ys, a, b, t, u, v, ht, hu, hv, ho, hs, hm => by omega
  | m + 1, i, ys, a, b, t, u, v, ht, hu, hv, ho, hs, hm => by
    rw [rngP_succ]
    rcases snoc_or ys with e | ⟨zs, y, e⟩
    · subst e
      refine ⟨.val (.int i), u, v, ?_⟩
      rw [loop_rt (S1 := [a, b, .own (.lst []), .val (.int i), u, v]) (S2 := [a, b, .own (.lst []), .val (.int i), u, v])]
      · simp [ht]
      · have : sEq (.lst []) (.lst []) = some (.bl true) := rfl
        simp -implicitDefEqProofs [L1_law_like, this]
    · subst e
      obtain ⟨ys', h1, h2, h3⟩ := like_step (a := a) (b := b) (i := i) ho (by omega) hu hv
      obtain ⟨t', u', v', h4⟩ := like_loop m (i + 1) ys' a b (.val (.int i)) (.val y) (.val y) rfl rfl rfl h2 (by omega) (by omega)
      refine ⟨t', u', v', ?_⟩
      rw [loop_nx (S1 := [a, b, .own (.lst ((zs ++ [y]).map prP)), .val (.int i), u, v]) (by simp [ht]) h1]
      exact h4
/-- a thing is alike to itself -/
theorem like_ok {x : PV} (ho : okL 30 x = true) (hs : szP x < 999999) : Gv F_law_like [x, x] (.v (.bl true)) := by
  unfold Gv F_law_like B_law_like
  have rr : sRng1 [.int 1000000] = some (rngP 0 1000000) := rfl
  obtain ⟨t', u', v', h⟩ := like_loop 1000000 0 [x] (.val x) (.val x) .no .no .no rfl rfl rfl (fun y hy => by rw [List.mem_singleton.mp hy]; exact ho) (by show szP x + 0 < 1000000; omega) (Nat.le_refl _)
  have h' : loopF (gSet 3) L1_law_like (rngP 0 1000000) [.val x, .val x, .own (.lst [.tup [x, x]]), .no, .no, .no] = .rt (.v (.bl true)) [.val x, .val x, .own (.lst []), t', u', v'] := h
  simp -implicitDefEqProofs [rr, kFor_ap, h']
theorem fq_law_like : FnV false F_law_like (un2 Q_law_like mF) := fun xs r e => by
  match xs, e with
  | [], e => cases e
  | [_], e => cases e
  | _ :: _ :: _ :: _, e => cases e
  | [x, y], e =>
    have e' : Q_law_like x y () = some (r, ()) := e
    unfold Q_law_like at e'
    split at e'
    · rename_i h
      obtain ⟨rfl, h1, h2⟩ := h
      cases e'
      obtain ⟨outs, h3, h4⟩ := like_ok h1 h2
      exact ⟨_, outs, h3, h4, rfl⟩
    · cases e'

theorem fq_law_view : FnV false F_law_view (un3 Q_law_view mF) := fnV3 (by decide) fun liars_1 pieces_2 lot_3 =>
    (ss_seq (ss_setL 3 (sm_xL (sm_disp (sm_anil))) (fun _ => rfl) (fun _ => ⟨_, rfl, rfl⟩))
    (fun rows_4 => ss_seq (qfor (is := [4, 5]) (fun (l_5 : PV) (s : Unit) => [.v liars_1, .v pieces_2, .v lot_3, .o l_5, .n, .n, .n]) rows_4 (sm_enum (sm_var 1 (fun _ => rfl))) (tg_tup (n := 2) (tgs_cons (tg_set 4) (tgs_cons (tg_set 5) (tgs_nil))) (ptCons_len (ptCons_len (ptNil_len)))) (fun _ => rfl) (fun _ => .e (.e (.e (.e (.e (.e (.e (.nil)))))))) (fun _ _ => rfl) (fun (l_5 : PV) => u2b fun place_9 piece_10 => ss_seq (ss_if (Gn := (fun (j_12 : PV) (s : Unit) => [.v liars_1, .v pieces_2, .v lot_3, .o j_12, .v place_9, .v piece_10, .n])) (sm_tst (sm_op2 (sm_opv (qcomp (is := [6]) (sm_seq (sm_var 2 (fun _ => rfl))) (tg_set 6) rfl (fun _ => rfl) ⟨.inl (fun _ => rfl), trivial⟩ (u1m fun house_11 => sm_tst (sm_op2 (sm_opv (sm_var 6 (fun _ => rfl))) (sm_opv (sm_op2 (sm_opv (sm_var 0 (fun _ => rfl))) (sm_opv (sm_var 4 (fun _ => rfl))))))) (u1m fun house_11 => sm_cst _))) (sm_opv (sm_disp (sm_anil))))) (fun _ => rfl) (ss_seq (qapp 3 (sm_disp (sm_acons (sm_var 4 (fun _ => rfl)) (sm_acons (sm_var 5 (fun _ => rfl)) (sm_anil)))) (fun _ => rfl) (fun _ => rfl))
    (fun rows_13 => ss_nx rows_13 (fun _ => .e (.e (.e (.e (.e (.e (.e (.nil)))))))))) (ss_nx l_5 (fun _ => .e (.e (.e (.e (.e (.e (.e (.nil))))))))))
    (fun (j_12 : PV) => ss_nx j_12 (fun _ => .e (.e (.e (.e (.n rfl (.n rfl (.e (.nil)))))))))))
    (fun (l_5 : PV) => ss_frz 3 (fun _ => rfl) (ss_ret (y_v (sm_opA (sm_ocons (sm_opv (sm_var 3 (fun _ => rfl))) (sm_onil)))) (fun _ => rfl)))))
theorem fq_is_within0 : FnV false F_is_within0 (un2 Q_is_within0 mF) := fnV2 (by decide) fun one_1 two_2 =>
    (ss_ret (y_v (sm_opA (sm_ocons (sm_opv (qcomp (is := [2]) (sm_seq (sm_var 0 (fun _ => rfl))) (tg_set 2) rfl (fun _ => rfl) ⟨.inl (fun _ => rfl), trivial⟩ (u1m fun house_3 => sm_yes) (u1m fun house_3 => sm_op2 (sm_opv (sm_var 2 (fun _ => rfl))) (sm_opv (sm_var 1 (fun _ => rfl)))))) (sm_onil)))) (fun _ => rfl))
theorem fq_seen0 : FnV false F_seen0 (un3 Q_seen0 mF) := fnV3 (by decide) fun liars_1 pieces_2 lot_3 =>
    (ss_ret (y_v (sm_opA (sm_ocons (sm_opv (qcomp (is := [3, 4]) (sm_enum (sm_var 1 (fun _ => rfl))) (tg_tup (n := 2) (tgs_cons (tg_set 3) (tgs_cons (tg_set 4) (tgs_nil))) (ptCons_len (ptCons_len (ptNil_len)))) rfl (fun _ => rfl) ⟨.inl (fun _ => rfl), ⟨.inl (fun _ => rfl), trivial⟩⟩ (u2m fun place_4 piece_5 => sm_tnot (sm_tst (sm_fz (sm_call fq_is_within0 (sm_acons (sm_var 2 (fun _ => rfl)) (sm_acons (sm_op2 (sm_opv (sm_var 0 (fun _ => rfl))) (sm_opv (sm_var 3 (fun _ => rfl)))) (sm_anil))))))) (u2m fun place_4 piece_5 => sm_disp (sm_acons (sm_var 3 (fun _ => rfl)) (sm_acons (sm_var 4 (fun _ => rfl)) (sm_anil)))))) (sm_onil)))) (fun _ => rfl))
theorem fq_secret_of0 : FnV false F_secret_of0 (un2 Q_secret_of0 mF) := fnV2 (by decide) fun modulus_1 pieces_2 =>
    (ss_ret (y_v (sm_op2 (sm_opv (sm_opA (sm_ocons (sm_opv (sm_var 1 (fun _ => rfl))) (sm_onil)))) (sm_opv (sm_var 0 (fun _ => rfl))))) (fun _ => rfl))
noncomputable def QL1_law0 (pmodulus_38 : PV) (pmine_44 : PV) (l_33 : PV) : List PV → M PV (Ct (PV) (PV)) := un1 (fun row_45 =>
    qS (qIf (qT (qOp2 sEq (qComp (ptTup (ptCons (pt1) (ptCons (pt1) (ptNil)))) (qSeq (mP pmine_44)) (un2 (fun place_46 piece_47 => qT (qOp2 sNe (qOp2 sIx (mP row_45) (mP place_46)) (mP piece_47))) mF) (un2 (fun place_46 piece_47 => mP (.int 1)) mF)) (qDisp .lst (qNil)))) (qS (qAugS l_33 (1) (qOp2 sMod (qOpA sToInt (qCons (qOpA sSum2 (qCons (mP row_45) (qNil))) (qNil))) (mP pmodulus_38)))
    (fun counts_49 => mP (.nx counts_49))) (mP (.nx l_33)))
    (fun (j_48 : PV) => mP (.nx j_48))) mF
noncomputable def QL2_law0 (pliars_24 : PV) (pmodulus_25 : PV) (psecret_26 : PV) (ppieces_27 : PV) (prows_29 : PV) (_ : Unit) : List PV → M PV (Ct (Unit) (Unit)) := un1 (fun lot_30 =>
    qS (qAsgX [qCall (un3 Q_law_view mF) (qCons (mP pliars_24) (qCons (mP ppieces_27) (qCons (mP lot_30) (qNil)))), qRep (qDisp .lst (qCons (mP (.int 0)) (qNil))) (mP pmodulus_25)])
    (un2 (fun mine_31 counts_32 => qS (qFor (pt1) (qSeq (mP prows_29)) (QL1_law0 pmodulus_25 mine_31) counts_32)
    (fun (l_33 : PV) => qS (qSet (qCall (un3 Q_dealings_for0 mF) (qCons (mP pliars_24) (qCons (mP pmodulus_25) (qCons (qCall (un3 Q_seen0 mF) (qCons (mP pliars_24) (qCons (mP ppieces_27) (qCons (mP lot_30) (qNil))))) (qNil))))))
    (fun told_50 => qS (qIf (qIf (qN (qT (qCall (un2 Q_law_like mF) (qCons (mP told_50) (qCons (qOpA sTuple (qCons (mP l_33) (qNil))) (qNil)))))) (mP true) (qT (qOp2 (sOrd .Lt) (qOp2 sIx (mP told_50) (mP psecret_26)) (mP (.int 1))))) (qRet (mP (.bl false))) (mP (.nx ())))
    (fun (_ : Unit) => qS (qIf (qT (qCall (un2 Q_law_may mF) (qCons (mP pliars_24) (qCons (mP lot_30) (qNil))))) (qS (qIf (qT (qOp2 sNe (qComp (pt1) (qSeq (mP told_50)) (un1 (fun one_53 => qT (qOp2 sNe (mP one_53) (qOp2 sIx (mP told_50) (mP (.int 0))))) mF) (un1 (fun one_53 => mP (.int 1)) mF)) (qDisp .lst (qNil)))) (qRet (mP (.bl false))) (mP (.nx ())))
    (fun (_ : Unit) => mP (.nx ()))) (qS (qIf (qT (qOp2 sNe (qComp (ptTup (ptCons (pt1) (ptCons (pt1) (ptNil)))) (qEnum (mP told_50)) (un2 (fun other_55 one_56 => qT (qOp2 sNe (mP one_56) (qIf (qT (qOp2 sEq (mP other_55) (mP psecret_26))) (mP (.int 1)) (mP (.int 0))))) mF) (un2 (fun other_55 one_56 => mP (.int 1)) mF)) (qDisp .lst (qNil)))) (qRet (mP (.bl false))) (mP (.nx ())))
    (fun (_ : Unit) => mP (.nx ()))))
    (fun (_ : Unit) => mP (.nx ())))))) mF)) mF
noncomputable def QL3_law0 (pscript_3 : PV) (_ : Unit) : List PV → M PV (Ct (Unit) (Unit)) := un1 (fun k_4 =>
    qS (qSetS (qCall (un2 Q_law_box mF) (qCons (mP pscript_3) (qCons (mP k_4) (qNil)))))
    (fun _ => qS (qAsg (ptTup (ptCons (pt1) (ptCons (pt1) (ptNil)))) (qCallB (un1 Q_law_town mF) (qCons (mP (.int 6)) (qNil))))
    (un2 (fun many_5 liars_6 => qS (qSet (qSl (mP liars_6) (mP none) (qI (qCallB (un1 Q_law_pick mF) (qCons (qDisp .lst (qCons (mP (.int 1)) (qCons (mP (.int 2)) (qCons (mP (.int 3)) (qCons (mP (.int 4)) (qCons (mP (.int 6)) (qNil))))))) (qNil))))))
    (fun liars_7 => qS (qSet (qCallB (un1 Q_law_pick mF) (qCons (qIf (qT (qOp2 (sOrd .Lt) (qOpA sLen (qCons (mP liars_7) (qNil))) (mP (.int 3)))) (qDisp .lst (qCons (mP (.int 2)) (qCons (mP (.int 3)) (qCons (mP (.int 5)) (qNil))))) (qIf (qT (qOp2 (sOrd .Lt) (qOpA sLen (qCons (mP liars_7) (qNil))) (mP (.int 5)))) (qDisp .lst (qCons (mP (.int 2)) (qCons (mP (.int 3)) (qNil)))) (qDisp .lst (qCons (mP (.int 2)) (qNil))))) (qNil))))
    (fun modulus_8 => qS (qSet (qCallB (un1 Q_law_take mF) (qCons (mP modulus_8) (qNil))))
    (fun secret_9 => qS (qSet (qCall (un4 Q_deal0 mF) (qCons (mP liars_7) (qCons (mP modulus_8) (qCons (mP secret_9) (qCons (qCallB (un2 Q_law_row mF) (qCons (mP modulus_8) (qCons (qOp2 sSub (qOpA sLen (qCons (mP liars_7) (qNil))) (mP (.int 1))) (qNil)))) (qNil)))))))
    (fun pieces_10 => qS (qIf (qIf (qN (qT (qIsi .tuple (mP pieces_10)))) (mP true) (qT (qOp2 sNe (qOpA sLen (qCons (mP pieces_10) (qNil))) (qOpA sLen (qCons (mP liars_7) (qNil)))))) (qRet (mP (.bl false))) (mP (.nx ())))
    (fun (_ : Unit) => qS (qIf (qT (qOp2 sNe (qComp (pt1) (qSeq (mP pieces_10)) (un1 (fun piece_12 => qIf (qN (qT (qIsi .int (mP piece_12)))) (mP true) (qIf (qT (qIsi .bool (mP piece_12))) (mP true) (qIf (qT (qOp2 (sOrd .Lt) (mP piece_12) (mP (.int 0)))) (mP true) (qT (qOp2 (sOrd .GtE) (mP piece_12) (mP modulus_8)))))) mF) (un1 (fun piece_12 => mP (.int 1)) mF)) (qDisp .lst (qNil)))) (qRet (mP (.bl false))) (mP (.nx ())))
    (fun (_ : Unit) => qS (qIf (qIf (qT (qOp2 sNe (qOp2 sMod (qOpA sToInt (qCons (qOpA sSum2 (qCons (mP pieces_10) (qNil))) (qNil))) (mP modulus_8)) (mP secret_9))) (mP true) (qN (qT (qCall (un2 Q_law_like mF) (qCons (qCall (un2 Q_secret_of0 mF) (qCons (mP modulus_8) (qCons (mP pieces_10) (qNil)))) (qCons (mP secret_9) (qNil))))))) (qRet (mP (.bl false))) (mP (.nx ())))
    (fun (_ : Unit) => qS (qSet (qCall (un1 Q_law_all_lots mF) (qCons (qOp1 sLstRg1 (mP many_5)) (qNil))))
    (fun lots_15 => qS (qIf (qT (qOp2 (sOrd .Gt) (qOpA sLen (qCons (mP lots_15) (qNil))) (mP (.int 32)))) (qS (qSet (qComp (pt1) (qArg sRng1 (qCons (mP (.int 20)) (qNil))) (un1 (fun turn_18 => mP true) mF) (un1 (fun turn_18 => qCallB (un2 Q_law_drawn_lot mF) (qCons (qOp1 sLstRg1 (mP many_5)) (qCons (qCallB (un1 Q_law_pick mF) (qCons (qDisp .lst (qCons (mP (.int 1)) (qCons (mP (.int 2)) (qCons (mP (.int 3)) (qNil))))) (qNil))) (qNil)))) mF)))
    (fun lots_17 => mP (.nx lots_17))) (mP (.nx lots_15)))
    (fun (j_16 : PV) => qS (qSet (qCall (un2 Q_law_all_rows mF) (qCons (mP modulus_8) (qCons (qOpA sLen (qCons (mP liars_7) (qNil))) (qNil)))))
    (fun rows_19 => qS (qFor (pt1) (qSeq (mP j_16)) (QL2_law0 liars_7 modulus_8 secret_9 pieces_10 rows_19) ())
    (fun (_ : Unit) => mP (.nx ()))))))))))))) mF))) mF
noncomputable def QB_law0 (script_1 : PV) : M PV (Ct Unit Unit) :=
    qS (qFor (pt1) (qArg sRng1 (qCons (qOpA sMax2 (qCons (mP (.int 3)) (qCons (qOpA sMin2 (qCons (qOpA sLen (qCons (mP script_1) (qNil))) (qCons (mP (.int 5)) (qNil)))) (qNil)))) (qNil))) (QL3_law0 script_1) ())
    (fun (_ : Unit) => qRet (mP (.bl true)))
noncomputable def Q_law0 (script_1 : PV) : M Unit PV := mR (qEnd false (QB_law0 script_1))
theorem fq_law0 : FnV false F_law0 (un1 Q_law0 mF) := fnL1 (by decide) fun script_1 =>
    (ss_seq (qfor (is := [1]) (fun (_ : Unit) (s : PV) => [.v script_1, .n, .n, .n, .n, .n, .n, .n, .n, .n, .n, .n, .n, .n, .n, .n, .n, .n, .n, .n]) () (sm_argI (sm_acons (sm_opA (sm_ocons (sm_opv (sm_cst _)) (sm_ocons (sm_opv (sm_opA (sm_ocons (sm_opv (sm_opA (sm_ocons (sm_opv (sm_var 0 (fun _ => rfl))) (sm_onil)))) (sm_ocons (sm_opv (sm_cst _)) (sm_onil))))) (sm_onil)))) (sm_anil))) (tg_set 1) (fun _ => rfl) (fun _ => .e (.e (.e (.e (.e (.e (.e (.e (.e (.e (.e (.e (.e (.e (.e (.e (.e (.e (.e (.e (.nil))))))))))))))))))))) (fun _ _ => rfl) (fun (_ : Unit) => u1b fun k_4 => ss_seq (ss_setS 2 (sm_call fq_law_box (sm_acons (sm_var 0 (fun _ => rfl)) (sm_acons (sm_var 1 (fun _ => rfl)) (sm_anil)))) (fun _ => rfl) (fun _ => ⟨_, rfl, rfl⟩) (fun _ _ => rfl))
    (fun _ => ss_seq (qasg (is := [10, 3]) (sm_fz (sm_callB 2 fq_law_town (.own (fun _ => rfl) (fun _ _ => rfl)) (sm_acons (sm_cst _) (sm_anil)))) (tg_tup (n := 2) (tgs_cons (tg_set 10) (tgs_cons (tg_set 3) (tgs_nil))) (ptCons_len (ptCons_len (ptNil_len)))) (fun _ => rfl) (fun _ => rfl))
    (u2s (fun many_5 liars_6 => ss_seq (ss_setV 3 (sm_fz (sm_sl (sm_opv (sm_var 3 (fun _ => rfl))) (sm_pnone) (sm_psome (sm_fz (sm_callB 2 fq_law_pick (.own (fun _ => rfl) (fun _ _ => rfl)) (sm_acons (sm_disp (sm_acons (sm_cst _) (sm_acons (sm_cst _) (sm_acons (sm_cst _) (sm_acons (sm_cst _) (sm_acons (sm_cst _) (sm_anil))))))) (sm_anil))))))) (fun _ => rfl) (fun _ => ⟨_, rfl, rfl⟩))
    (fun liars_7 => ss_seq (ss_setV 4 (sm_fz (sm_callB 2 fq_law_pick (.own (fun _ => rfl) (fun _ _ => rfl)) (sm_acons (sm_ifv (sm_tst (sm_op2 (sm_opv (sm_opA (sm_ocons (sm_opv (sm_var 3 (fun _ => rfl))) (sm_onil)))) (sm_opv (sm_cst _)))) (sm_disp (sm_acons (sm_cst _) (sm_acons (sm_cst _) (sm_acons (sm_cst _) (sm_anil))))) (sm_ifv (sm_tst (sm_op2 (sm_opv (sm_opA (sm_ocons (sm_opv (sm_var 3 (fun _ => rfl))) (sm_onil)))) (sm_opv (sm_cst _)))) (sm_disp (sm_acons (sm_cst _) (sm_acons (sm_cst _) (sm_anil)))) (sm_disp (sm_acons (sm_cst _) (sm_anil))))) (sm_anil)))) (fun _ => rfl) (fun _ => ⟨_, rfl, rfl⟩))
    (fun modulus_8 => ss_seq (ss_setV 5 (sm_fz (sm_callB 2 fq_law_take (.own (fun _ => rfl) (fun _ _ => rfl)) (sm_acons (sm_var 4 (fun _ => rfl)) (sm_anil)))) (fun _ => rfl) (fun _ => ⟨_, rfl, rfl⟩))
    (fun secret_9 => ss_seq (ss_setV 6 (sm_fz (sm_call fq_deal0 (sm_acons (sm_var 3 (fun _ => rfl)) (sm_acons (sm_var 4 (fun _ => rfl)) (sm_acons (sm_var 5 (fun _ => rfl)) (sm_acons (sm_fz (sm_callB 2 fq_law_row (.own (fun _ => rfl) (fun _ _ => rfl)) (sm_acons (sm_var 4 (fun _ => rfl)) (sm_acons (sm_op2 (sm_opv (sm_opA (sm_ocons (sm_opv (sm_var 3 (fun _ => rfl))) (sm_onil)))) (sm_opv (sm_cst _))) (sm_anil))))) (sm_anil))))))) (fun _ => rfl) (fun _ => ⟨_, rfl, rfl⟩))
    (fun pieces_10 => ss_seq (ss_if (Gn := (fun (_ : Unit) (s : PV) => [.v script_1, .v k_4, .o s, .v liars_7, .v modulus_8, .v secret_9, .v pieces_10, .n, .n, .n, .v many_5, .n, .n, .n, .n, .n, .n, .n, .n, .n])) (sm_tor (sm_tnot (sm_tst (sm_isi (sm_opv (sm_var 6 (fun _ => rfl)))))) (sm_tst (sm_op2 (sm_opv (sm_opA (sm_ocons (sm_opv (sm_var 6 (fun _ => rfl))) (sm_onil)))) (sm_opv (sm_opA (sm_ocons (sm_opv (sm_var 3 (fun _ => rfl))) (sm_onil))))))) (fun _ => rfl) (ss_ret (y_v (sm_cst _)) (fun _ => rfl)) (ss_nx () (fun _ => .e (.e (.e (.e (.e (.e (.e (.e (.e (.e (.e (.e (.e (.e (.e (.e (.e (.e (.e (.e (.nil)))))))))))))))))))))))
    (fun (_ : Unit) => ss_seq (ss_if (Gn := (fun (_ : Unit) (s : PV) => [.v script_1, .v k_4, .o s, .v liars_7, .v modulus_8, .v secret_9, .v pieces_10, .n, .n, .n, .v many_5, .n, .n, .n, .n, .n, .n, .n, .n, .n])) (sm_tst (sm_op2 (sm_opv (qcomp (is := [15]) (sm_seq (sm_var 6 (fun _ => rfl))) (tg_set 15) rfl (fun _ => rfl) ⟨.inl (fun _ => rfl), trivial⟩ (u1m fun piece_12 => sm_tor (sm_tnot (sm_tst (sm_isi (sm_opv (sm_var 15 (fun _ => rfl)))))) (sm_tor (sm_tst (sm_isi (sm_opv (sm_var 15 (fun _ => rfl))))) (sm_tor (sm_tst (sm_op2 (sm_opv (sm_var 15 (fun _ => rfl))) (sm_opv (sm_cst _)))) (sm_tst (sm_op2 (sm_opv (sm_var 15 (fun _ => rfl))) (sm_opv (sm_var 4 (fun _ => rfl)))))))) (u1m fun piece_12 => sm_cst _))) (sm_opv (sm_disp (sm_anil))))) (fun _ => rfl) (ss_ret (y_v (sm_cst _)) (fun _ => rfl)) (ss_nx () (fun _ => .e (.e (.e (.e (.e (.e (.e (.e (.e (.e (.e (.e (.e (.e (.e (.e (.e (.e (.e (.e (.nil)))))))))))))))))))))))
    (fun (_ : Unit) => ss_seq (ss_if (Gn := (fun (_ : Unit) (s : PV) => [.v script_1, .v k_4, .o s, .v liars_7, .v modulus_8, .v secret_9, .v pieces_10, .n, .n, .n, .v many_5, .n, .n, .n, .n, .n, .n, .n, .n, .n])) (sm_tor (sm_tst (sm_op2 (sm_opv (sm_op2 (sm_opv (sm_opA (sm_ocons (sm_opv (sm_opA (sm_ocons (sm_opv (sm_var 6 (fun _ => rfl))) (sm_onil)))) (sm_onil)))) (sm_opv (sm_var 4 (fun _ => rfl))))) (sm_opv (sm_var 5 (fun _ => rfl))))) (sm_tnot (sm_tst (sm_fz (sm_call fq_law_like (sm_acons (sm_fz (sm_call fq_secret_of0 (sm_acons (sm_var 4 (fun _ => rfl)) (sm_acons (sm_var 6 (fun _ => rfl)) (sm_anil))))) (sm_acons (sm_var 5 (fun _ => rfl)) (sm_anil)))))))) (fun _ => rfl) (ss_ret (y_v (sm_cst _)) (fun _ => rfl)) (ss_nx () (fun _ => .e (.e (.e (.e (.e (.e (.e (.e (.e (.e (.e (.e (.e (.e (.e (.e (.e (.e (.e (.e (.nil)))))))))))))))))))))))
    (fun (_ : Unit) => ss_seq (ss_setV 7 (sm_fz (sm_call fq_law_all_lots (sm_acons (sm_op1 (sm_opv (sm_var 10 (fun _ => rfl)))) (sm_anil)))) (fun _ => rfl) (fun _ => ⟨_, rfl, rfl⟩))
    (fun lots_15 => ss_seq (ss_if (Gn := (fun (j_16 : PV) (s : PV) => [.v script_1, .v k_4, .o s, .v liars_7, .v modulus_8, .v secret_9, .v pieces_10, .v j_16, .n, .n, .v many_5, .n, .n, .n, .n, .n, .n, .n, .n, .n])) (sm_tst (sm_op2 (sm_opv (sm_opA (sm_ocons (sm_opv (sm_var 7 (fun _ => rfl))) (sm_onil)))) (sm_opv (sm_cst _)))) (fun _ => rfl) (ss_seq (ss_setL 7 (sm_xL (qcomp (is := [16]) (sm_argI (sm_acons (sm_cst _) (sm_anil))) (tg_set 16) rfl (fun _ => rfl) ⟨.inl (fun _ => rfl), trivial⟩ (u1m fun turn_18 => sm_yes) (u1m fun turn_18 => sm_fz (sm_callB 2 fq_law_drawn_lot (.own (fun _ => rfl) (fun _ _ => rfl)) (sm_acons (sm_op1 (sm_opv (sm_var 10 (fun _ => rfl)))) (sm_acons (sm_fz (sm_callB 2 fq_law_pick (.own (fun _ => rfl) (fun _ _ => rfl)) (sm_acons (sm_disp (sm_acons (sm_cst _) (sm_acons (sm_cst _) (sm_acons (sm_cst _) (sm_anil))))) (sm_anil)))) (sm_anil))))))) (fun _ => rfl) (fun _ => ⟨_, rfl, rfl⟩))
    (fun lots_17 => ss_frz 7 (fun _ => rfl) (ss_nx lots_17 (fun _ => .e (.e (.e (.e (.e (.e (.e (.e (.e (.e (.e (.e (.e (.e (.e (.e (.e (.e (.e (.e (.nil)))))))))))))))))))))))) (ss_nx lots_15 (fun _ => .e (.e (.e (.e (.e (.e (.e (.e (.e (.e (.e (.e (.e (.e (.e (.e (.e (.e (.e (.e (.nil)))))))))))))))))))))))
    (fun (j_16 : PV) => ss_seq (ss_setV 8 (sm_fz (sm_call fq_law_all_rows (sm_acons (sm_var 4 (fun _ => rfl)) (sm_acons (sm_opA (sm_ocons (sm_opv (sm_var 3 (fun _ => rfl))) (sm_onil))) (sm_anil))))) (fun _ => rfl) (fun _ => ⟨_, rfl, rfl⟩))
    (fun rows_19 => ss_seq (qfor (is := [9]) (fun (_ : Unit) (s : PV) => [.v script_1, .v k_4, .o s, .v liars_7, .v modulus_8, .v secret_9, .v pieces_10, .v j_16, .v rows_19, .n, .v many_5, .n, .n, .n, .n, .n, .n, .n, .n, .n]) () (sm_seq (sm_var 7 (fun _ => rfl))) (tg_set 9) (fun _ => rfl) (fun _ => .e (.e (.e (.e (.e (.e (.e (.e (.e (.e (.e (.e (.e (.e (.e (.e (.e (.e (.e (.e (.nil))))))))))))))))))))) (fun _ _ => rfl) (fun (_ : Unit) => u1b fun lot_30 => ss_seq (qasgX (is := [13, 14]) (os := [false, true]) (xs_cons (y_v (sm_fz (sm_call fq_law_view (sm_acons (sm_var 3 (fun _ => rfl)) (sm_acons (sm_var 6 (fun _ => rfl)) (sm_acons (sm_var 9 (fun _ => rfl)) (sm_anil))))))) (xs_cons (y_l (sm_xL (sm_rep (sm_disp (sm_acons (sm_cst _) (sm_anil))) (sm_opv (sm_var 4 (fun _ => rfl)))))) (xs_nil))) rfl (fun _ => rfl) (fun _ => rfl))
    (u2s (fun mine_31 counts_32 => ss_seq (qfor (is := [11]) (fun (l_33 : PV) (s : PV) => [.v script_1, .v k_4, .o s, .v liars_7, .v modulus_8, .v secret_9, .v pieces_10, .v j_16, .v rows_19, .v lot_30, .v many_5, .n, .n, .v mine_31, .o l_33, .n, .n, .n, .n, .n]) counts_32 (sm_seq (sm_var 8 (fun _ => rfl))) (tg_set 11) (fun _ => rfl) (fun _ => .e (.e (.e (.e (.e (.e (.e (.e (.e (.e (.e (.e (.e (.e (.e (.e (.e (.e (.e (.e (.nil))))))))))))))))))))) (fun _ _ => rfl) (fun (l_33 : PV) => u1b fun row_45 => ss_seq (ss_if (Gn := (fun (j_48 : PV) (s : PV) => [.v script_1, .v k_4, .o s, .v liars_7, .v modulus_8, .v secret_9, .v pieces_10, .v j_16, .v rows_19, .v lot_30, .v many_5, .v row_45, .n, .v mine_31, .o j_48, .n, .n, .n, .n, .n])) (sm_tst (sm_op2 (sm_opv (qcomp (is := [18, 15]) (sm_seq (sm_var 13 (fun _ => rfl))) (tg_tup (n := 2) (tgs_cons (tg_set 18) (tgs_cons (tg_set 15) (tgs_nil))) (ptCons_len (ptCons_len (ptNil_len)))) rfl (fun _ => rfl) ⟨.inl (fun _ => rfl), ⟨.inl (fun _ => rfl), trivial⟩⟩ (u2m fun place_46 piece_47 => sm_tst (sm_op2 (sm_opv (sm_op2 (sm_opv (sm_var 11 (fun _ => rfl))) (sm_opv (sm_var 18 (fun _ => rfl))))) (sm_opv (sm_var 15 (fun _ => rfl))))) (u2m fun place_46 piece_47 => sm_cst _))) (sm_opv (sm_disp (sm_anil))))) (fun _ => rfl) (ss_seq (qaugS 14 (sm_op2 (sm_opv (sm_opA (sm_ocons (sm_opv (sm_opA (sm_ocons (sm_opv (sm_var 11 (fun _ => rfl))) (sm_onil)))) (sm_onil)))) (sm_opv (sm_var 4 (fun _ => rfl)))) (fun _ => rfl) (fun _ => rfl))
    (fun counts_49 => ss_nx counts_49 (fun _ => .e (.e (.e (.e (.e (.e (.e (.e (.e (.e (.e (.e (.e (.e (.e (.e (.e (.e (.e (.e (.nil))))))))))))))))))))))) (ss_nx l_33 (fun _ => .e (.e (.e (.e (.e (.e (.e (.e (.e (.e (.e (.e (.e (.e (.e (.e (.e (.e (.e (.e (.nil)))))))))))))))))))))))
    (fun (j_48 : PV) => ss_nx j_48 (fun _ => .e (.e (.e (.e (.e (.e (.e (.e (.e (.e (.e (.n rfl (.e (.e (.e (.e (.e (.e (.e (.e (.nil))))))))))))))))))))))))
    (fun (l_33 : PV) => ss_frz 14 (fun _ => rfl) (ss_seq (ss_setV 12 (sm_fz (sm_call fq_dealings_for0 (sm_acons (sm_var 3 (fun _ => rfl)) (sm_acons (sm_var 4 (fun _ => rfl)) (sm_acons (sm_fz (sm_call fq_seen0 (sm_acons (sm_var 3 (fun _ => rfl)) (sm_acons (sm_var 6 (fun _ => rfl)) (sm_acons (sm_var 9 (fun _ => rfl)) (sm_anil)))))) (sm_anil)))))) (fun _ => rfl) (fun _ => ⟨_, rfl, rfl⟩))
    (fun told_50 => ss_seq (ss_if (Gn := (fun (_ : Unit) (s : PV) => [.v script_1, .v k_4, .o s, .v liars_7, .v modulus_8, .v secret_9, .v pieces_10, .v j_16, .v rows_19, .v lot_30, .v many_5, .n, .v told_50, .v mine_31, .v l_33, .n, .n, .n, .n, .n])) (sm_tor (sm_tnot (sm_tst (sm_fz (sm_call fq_law_like (sm_acons (sm_var 12 (fun _ => rfl)) (sm_acons (sm_opA (sm_ocons (sm_opv (sm_var 14 (fun _ => rfl))) (sm_onil))) (sm_anil))))))) (sm_tst (sm_op2 (sm_opv (sm_op2 (sm_opv (sm_var 12 (fun _ => rfl))) (sm_opv (sm_var 5 (fun _ => rfl))))) (sm_opv (sm_cst _))))) (fun _ => rfl) (ss_ret (y_v (sm_cst _)) (fun _ => rfl)) (ss_nx () (fun _ => .e (.e (.e (.e (.e (.e (.e (.e (.e (.e (.e (.e (.e (.e (.e (.e (.e (.e (.e (.e (.nil)))))))))))))))))))))))
    (fun (_ : Unit) => ss_seq (ss_if (Gn := (fun (_ : Unit) (s : PV) => [.v script_1, .v k_4, .o s, .v liars_7, .v modulus_8, .v secret_9, .v pieces_10, .v j_16, .v rows_19, .v lot_30, .v many_5, .n, .v told_50, .v mine_31, .v l_33, .n, .n, .n, .n, .n])) (sm_tst (sm_fz (sm_call fq_law_may (sm_acons (sm_var 3 (fun _ => rfl)) (sm_acons (sm_var 9 (fun _ => rfl)) (sm_anil)))))) (fun _ => rfl) (ss_seq (ss_if (Gn := (fun (_ : Unit) (s : PV) => [.v script_1, .v k_4, .o s, .v liars_7, .v modulus_8, .v secret_9, .v pieces_10, .v j_16, .v rows_19, .v lot_30, .v many_5, .n, .v told_50, .v mine_31, .v l_33, .n, .n, .n, .n, .n])) (sm_tst (sm_op2 (sm_opv (qcomp (is := [17]) (sm_seq (sm_var 12 (fun _ => rfl))) (tg_set 17) rfl (fun _ => rfl) ⟨.inl (fun _ => rfl), trivial⟩ (u1m fun one_53 => sm_tst (sm_op2 (sm_opv (sm_var 17 (fun _ => rfl))) (sm_opv (sm_op2 (sm_opv (sm_var 12 (fun _ => rfl))) (sm_opv (sm_cst _)))))) (u1m fun one_53 => sm_cst _))) (sm_opv (sm_disp (sm_anil))))) (fun _ => rfl) (ss_ret (y_v (sm_cst _)) (fun _ => rfl)) (ss_nx () (fun _ => .e (.e (.e (.e (.e (.e (.e (.e (.e (.e (.e (.e (.e (.e (.e (.e (.e (.e (.e (.e (.nil)))))))))))))))))))))))
    (fun (_ : Unit) => ss_nx () (fun _ => .e (.e (.e (.e (.e (.e (.e (.e (.e (.e (.e (.e (.e (.e (.e (.e (.e (.e (.e (.e (.nil))))))))))))))))))))))) (ss_seq (ss_if (Gn := (fun (_ : Unit) (s : PV) => [.v script_1, .v k_4, .o s, .v liars_7, .v modulus_8, .v secret_9, .v pieces_10, .v j_16, .v rows_19, .v lot_30, .v many_5, .n, .v told_50, .v mine_31, .v l_33, .n, .n, .n, .n, .n])) (sm_tst (sm_op2 (sm_opv (qcomp (is := [19, 17]) (sm_enum (sm_var 12 (fun _ => rfl))) (tg_tup (n := 2) (tgs_cons (tg_set 19) (tgs_cons (tg_set 17) (tgs_nil))) (ptCons_len (ptCons_len (ptNil_len)))) rfl (fun _ => rfl) ⟨.inl (fun _ => rfl), ⟨.inl (fun _ => rfl), trivial⟩⟩ (u2m fun other_55 one_56 => sm_tst (sm_op2 (sm_opv (sm_var 17 (fun _ => rfl))) (sm_opv (sm_ifv (sm_tst (sm_op2 (sm_opv (sm_var 19 (fun _ => rfl))) (sm_opv (sm_var 5 (fun _ => rfl))))) (sm_cst _) (sm_cst _))))) (u2m fun other_55 one_56 => sm_cst _))) (sm_opv (sm_disp (sm_anil))))) (fun _ => rfl) (ss_ret (y_v (sm_cst _)) (fun _ => rfl)) (ss_nx () (fun _ => .e (.e (.e (.e (.e (.e (.e (.e (.e (.e (.e (.e (.e (.e (.e (.e (.e (.e (.e (.e (.nil)))))))))))))))))))))))
    (fun (_ : Unit) => ss_nx () (fun _ => .e (.e (.e (.e (.e (.e (.e (.e (.e (.e (.e (.e (.e (.e (.e (.e (.e (.e (.e (.e (.nil))))))))))))))))))))))))
    (fun (_ : Unit) => ss_nx () (fun _ => .e (.e (.e (.e (.e (.e (.e (.e (.e (.n rfl (.e (.e (.n rfl (.n rfl (.n rfl (.e (.e (.e (.e (.e (.nil))))))))))))))))))))))))))))))
    (fun (_ : Unit) => ss_nx () (fun _ => .e (.n rfl (.n rfl (.n rfl (.n rfl (.n rfl (.n rfl (.n rfl (.n rfl (.e (.n rfl (.e (.e (.e (.e (.e (.e (.e (.e (.e (.nil)))))))))))))))))))))))))))))))))))))
    (fun (_ : Unit) => ss_ret (y_v (sm_cst _)) (fun _ => rfl)))
section
variable {P : Program} {w : World} {K : PySem.W.Frag} {mg : Str → Option Value} {base : Heap}
theorem b_law_box (c : Facts K mg) : Binds K c.d_law_box ["script", "k"] [] := c.F_law_box.bindsN fun _ _ _ _ _ _ us hl => match us, hl with | [_, _], _ => rfl
theorem ok_law_box (c : Facts K mg) : FnOk P w K mg base (L2.CX P w) 1 c.a_law_box c.d_law_box ["script", "k"] (SpOf K mg F_law_box) :=
  fn_ok (N := n_law_box) c.F_law_box sc_law_box rfl (by decide) fun cdv A outer s H E hr tk => (show VSs _ _ _ B_law_box from
    vss_cons (vs_setX sc_law_box.nd (ex_v (ev_x (ex_add (eo_ev (ev_bin op_mulB s_mul (eo_ev (ev_int)) (eo_ev (ss 1)))) (eo_ev (ev_int))))))
    (vss_cons (vs_if (et_cmp (op_ord (.inl rfl) (room80 hr)) s_ord (eo_ev (ss 1)) (eo_ev (cB call_len s_len c.n_len (ea1 (eo_ev (ss 0)) (ea_nil)))) (nomark _)) (vss_cons (vs_setX sc_law_box.nd (ex_v (cB call_abs s_abs c.n_abs (ea1 (eo_ev (cT call_int1 s_toInt c.n_int (ea1 (eo_ev (ev_ix ix_seq s_ix (eo_ev (ss 0)) (eo_ev (ss 1)) (by intro _ _; rfl))) (ea_nil)))) (ea_nil)))))
    (vss_nil)) (vss_cons (vs_if (et_cmp (op_ord (.inr (.inr (.inl rfl))) (room80 hr)) s_ord (eo_ev (cB call_len s_len c.n_len (ea1 (eo_ev (ss 0)) (ea_nil)))) (eo_ev (ev_int)) (nomark _)) (vss_cons (vs_setX sc_law_box.nd (ex_v (ev_x (ex_add (eo_ev (ss 2)) (eo_ev (ev_bin op_mulB s_mul (eo_ev (ev_bin op_mod s_mod (eo_ev (cT call_int1 s_toInt c.n_int (ea1 (eo_ev (cB call_abs s_abs c.n_abs (ea1 (eo_ev (cT call_int1 s_toInt c.n_int (ea1 (eo_ev (ev_ix ix_seq s_ix (eo_ev (ss 0)) (eo_ev (ev_bin op_mod s_mod (eo_ev (cT call_int1 s_toInt c.n_int (ea1 (eo_ev (ss 1)) (ea_nil)))) (eo_ev (cB call_len s_len c.n_len (ea1 (eo_ev (ss 0)) (ea_nil)))))) (by intro _ _; rfl))) (ea_nil)))) (ea_nil)))) (ea_nil)))) (eo_ev (ev_int)))) (eo_ev (ev_int))))))))
    (vss_nil)) (vss_nil))
    (vss_nil)))
    (vss_cons (vs_setX sc_law_box.nd (ex_v (ev_if (et_cmp (op_ord (.inr (.inr (.inr rfl))) (room80 hr)) s_ord (eo_ev (ss 2)) (eo_ev (ev_bin op_pow s_pow (eo_ev (ev_int)) (eo_ev (ev_int)))) (nomark _)) (ss 2) (ev_int))))
    (vss_one (vs_retX (ex_l (el_lst (ea1 (eo_ev (ss 3)) (ea1 (eo_ev (ev_x (ex_add (eo_ev (ev_bin op_mod s_mod (eo_ev (cT call_int1 s_toInt c.n_int (ea1 (eo_ev (ev_x (ex_add (eo_ev (ev_bin op_mulB s_mul (eo_ev (ev_bin op_mod s_mod (eo_ev (cT call_int1 s_toInt c.n_int (ea1 (eo_ev (ss 2)) (ea_nil)))) (eo_ev (ev_int)))) (eo_ev (ev_int)))) (eo_ev (ev_bin op_mulB s_mul (eo_ev (ev_int)) (eo_ev (ss 1))))))) (ea_nil)))) (eo_ev (ev_int)))) (eo_ev (ev_int))))) (ea_nil))))))))))
theorem b_law_take (c : Facts K mg) : Binds K c.d_law_take ["box", "many"] [] := c.F_law_take.bindsN fun _ _ _ _ _ _ us hl => match us, hl with | [_, _], _ => rfl
theorem ok_law_take (c : Facts K mg) : FnOk P w K mg base (L2.CX P w) 1 c.a_law_take c.d_law_take ["box", "many"] (SpOf K mg F_law_take) :=
  fn_ok (N := n_law_take) c.F_law_take sc_law_take rfl (by decide) fun cdv A outer s H E hr tk => (show VSs _ _ _ B_law_take from
    vss_cons (vs_if (et_cmp (op_ord (.inr (.inr (.inl rfl))) (room80 hr)) s_ord (eo_ev (ev_ix ix_seq s_ix (oo 0) (eo_ev (ev_int)) (by intro _ _; rfl))) (eo_ev (ev_int)) (nomark _)) (vss_cons (vs_setX sc_law_take.nd (ex_v (ev_bin op_mod s_mod (eo_ev (cT call_int1 s_toInt c.n_int (ea1 (eo_ev (ev_ix ix_seq s_ix (oo 0) (eo_ev (ev_int)) (by intro _ _; rfl))) (ea_nil)))) (oo 1))))
    (vss_cons (sto (ev_bin op_fdivW s_div (eo_ev (ev_ix ix_seq s_ix (oo 0) (eo_ev (ev_int)) (by intro _ _; rfl))) (oo 1)) (ev_int))
    (vss_one (vs_retX (mx 3))))) (vss_nil))
    (vss_cons (vs_setX sc_law_take.nd (ex_v (ev_bin op_mod s_mod (eo_ev (cT call_int1 s_toInt c.n_int (ea1 (eo_ev (ev_x (ex_add (eo_ev (ev_bin op_mulB s_mul (eo_ev (ev_ix ix_seq s_ix (oo 0) (eo_ev (ev_int)) (by intro _ _; rfl))) (eo_ev (ev_int)))) (eo_ev (ev_int))))) (ea_nil)))) (eo_ev (ev_int)))))
    (vss_cons (sto (ev_x (ex_add (eo_ev (ev_bin op_mod s_mod (eo_ev (cT call_int1 s_toInt c.n_int (ea1 (eo_ev (ev_x (ex_add (eo_ev (ev_bin op_mulB s_mul (oo 2) (eo_ev (ev_int)))) (eo_ev (ev_int))))) (ea_nil)))) (eo_ev (ev_int)))) (eo_ev (ev_int)))) (ev_int))
    (vss_one (vs_retX (ex_v (ev_bin op_mod s_mod (eo_ev (cT call_int1 s_toInt c.n_int (ea1 (eo_ev (ev_bin op_fdivW s_div (eo_ev (ev_x (ex_add (eo_ev (ev_bin op_mulB s_mul (oo 2) (eo_ev (ev_int)))) (eo_ev (ev_ix ix_seq s_ix (oo 0) (eo_ev (ev_int)) (by intro _ _; rfl)))))) (eo_ev (ev_int)))) (ea_nil)))) (oo 1))))))))
theorem b_law_within (c : Facts K mg) : Binds K c.d_law_within ["one", "two"] [] := c.F_law_within.bindsN fun _ _ _ _ _ _ us hl => match us, hl with | [_, _], _ => rfl
theorem ok_law_within (c : Facts K mg) : FnOk P w K mg base (L2.CX P w) 1 c.a_law_within c.d_law_within ["one", "two"] (SpOf K mg F_law_within) :=
  fn_ok (N := n_law_within) c.F_law_within sc_law_within rfl (by decide) fun cdv A outer s H E hr tk => (show VSs _ _ _ B_law_within from
    vss_one (vs_retX (ex_v (ev_cmp (op_eqD hr.units) s_eq (eo_ev (ev_fz (comp2 [("house", 2)] rfl rfl sc_law_within.nd (ei_seq (eo_ev (ss 0))) (blkOk_by (N := n_law_within) (sc := defScope s_law_within) (own := [("house", 2)]) (by decide +kernel)) (fun _ _ _ _ _ => egn sc_law_within.nd) (fun _ _ _ _ _ => ets_one (et_cmp (op_notInS (room65 hr)) (s_in true) (eo_ev (ss 2)) (eo_ev (ss 1)) (by with_unfolding_all rfl))) (fun _ _ _ _ _ => ev_int) (by decide)))) (eo_ev (ev_fz (el_lst (ea_nil)))) (nomark _)))))
theorem b_law_greatest (c : Facts K mg) : Binds K c.d_law_greatest ["lots"] [] := c.F_law_greatest.bindsN fun _ _ _ _ _ _ us hl => match us, hl with | [_], _ => rfl
theorem ok_law_greatest (c : Facts K mg) : FnOk P w K mg base (L2.CX P w) 2 c.a_law_greatest c.d_law_greatest ["lots"] (SpOf K mg F_law_greatest) :=
  fn_ok (N := n_law_greatest) c.F_law_greatest sc_law_greatest rfl (by decide) fun cdv A outer s H E hr tk => (show VSs _ _ _ B_law_greatest from
    vss_cons (vs_setX sc_law_greatest.nd (ex_v (ev_fz (sset rfl (room80 hr) c.n_sorted c.n_set (ea1 (eo_ev (ss 0)) (ea_nil))))))
    (vss_one (vs_retX (ex_v (cT call_tuple_of s_tuple c.n_tuple (ea1 (eo_ev (ev_fz (comp2 [("one", 2)] rfl rfl sc_law_greatest.nd (ei_seq (eo_ev (ss 1))) (blkOk_by (N := n_law_greatest) (sc := defScope s_law_greatest) (own := [("one", 2)]) (by decide +kernel)) (fun _ _ _ _ _ => egn sc_law_greatest.nd) (fun _ _ _ _ _ => ets_one (et_cmp (op_eqD hr.units) s_eq (eo_ev (ev_fz (comp2 [("two", 3)] rfl rfl sc_law_greatest.nd (ei_seq (eo_ev (ss 1))) (blkIn n_law_greatest (defScope s_law_greatest) rfl rfl (by decide +kernel)) (fun _ _ _ _ _ => egn sc_law_greatest.nd) (fun _ _ _ _ _ => ets_one ((ew_and (et_cmp (op_neD hr.units) s_ne (eo_ev (ss 2)) (eo_ev (ss 3)) (nomark _)) (ew_and1 (eval_t (ev_x (ex_call (ok_law_within c) (hr.mono (by decide)) c.g_law_within c.F_law_within.kp (b_law_within c) passFL (ea1 (eo_ev (ss 2)) (ea1 (eo_ev (ss 3)) (ea_nil)))))))).et)) (fun _ _ _ _ _ => ev_int) (by decide)))) (eo_ev (ev_fz (el_lst (ea_nil)))) (nomark _))) (fun _ _ _ _ _ => ss 2) (by decide)))) (ea_nil)))))))
theorem b_law_drawn_lot (c : Facts K mg) : Binds K c.d_law_drawn_lot ["box", "houses", "part"] [] := c.F_law_drawn_lot.bindsN fun _ _ _ _ _ _ us hl => match us, hl with | [_, _, _], _ => rfl
theorem ok_law_drawn_lot (c : Facts K mg) : FnOk P w K mg base (L2.CX P w) 2 c.a_law_drawn_lot c.d_law_drawn_lot ["box", "houses", "part"] (SpOf K mg F_law_drawn_lot) :=
  fn_ok (N := n_law_drawn_lot) c.F_law_drawn_lot sc_law_drawn_lot rfl (by decide) fun cdv A outer s H E hr tk => (show VSs _ _ _ B_law_drawn_lot from
    vss_one (vs_retX (ex_v (cT call_tuple_of s_tuple c.n_tuple (ea1 (eo_ev (ev_fz (comp2 [("house", 3)] rfl rfl sc_law_drawn_lot.nd (ei_seq (eo_ev (ss 1))) (blkOk_by (N := n_law_drawn_lot) (sc := defScope s_law_drawn_lot) (own := [("house", 3)]) (by decide +kernel)) (fun _ _ _ _ _ => egn sc_law_drawn_lot.nd) (fun _ _ _ _ _ => ets_one (et_cmp (op_eqD hr.units) s_eq (eo_ev (ev_x (ex_call (ok_law_take c) (hr.mono (by decide)) c.g_law_take c.F_law_take.kp (b_law_take c) passFL (ea1 (oo 0) (ea1 (eo_ev (ss 2)) (ea_nil)))))) (eo_ev (ev_int)) (nomark _))) (fun _ _ _ _ _ => ss 3) (by decide)))) (ea_nil))))))
theorem b_law_pick (c : Facts K mg) : Binds K c.d_law_pick ["box", "some"] [] := c.F_law_pick.bindsN fun _ _ _ _ _ _ us hl => match us, hl with | [_, _], _ => rfl
theorem ok_law_pick (c : Facts K mg) : FnOk P w K mg base (L2.CX P w) 2 c.a_law_pick c.d_law_pick ["box", "some"] (SpOf K mg F_law_pick) :=
  fn_ok (N := n_law_pick) c.F_law_pick sc_law_pick rfl (by decide) fun cdv A outer s H E hr tk => (show VSs _ _ _ B_law_pick from
    vss_one (vs_retX (ex_v (ev_ix ix_seq s_ix (eo_ev (ss 1)) (eo_ev (ev_x (ex_call (ok_law_take c) (hr.mono (by decide)) c.g_law_take c.F_law_take.kp (b_law_take c) (passAt tk) (ea1 (oo 0) (ea1 (eo_ev (cB call_len s_len c.n_len (ea1 (eo_ev (ss 1)) (ea_nil)))) (ea_nil)))))) (by intro _ _; rfl)))))
theorem b_law_liars (c : Facts K mg) : Binds K c.d_law_liars ["box", "many"] [] := c.F_law_liars.bindsN fun _ _ _ _ _ _ us hl => match us, hl with | [_, _], _ => rfl
theorem ok_law_liars (c : Facts K mg) : FnOk P w K mg base (L2.CX P w) 3 c.a_law_liars c.d_law_liars ["box", "many"] (SpOf K mg F_law_liars) :=
  fn_ok (N := n_law_liars) c.F_law_liars sc_law_liars rfl (by decide) fun cdv A outer s H E hr tk => (show VSs _ _ _ B_law_liars from
    vss_cons (asg (ev_tup (ea1 (eo_ev (tupRg1 rfl c.n_tuple c.n_range (eo_ev (ss 1)))) (ea1 (eo_ev (ev_x (ex_call (ok_law_take c) (hr.mono (by decide)) c.g_law_take c.F_law_take.kp (b_law_take c) (passAt tk) (ea1 (oo 0) (ea1 (eo_ev (ev_int)) (ea_nil)))))) (ea_nil)))) (egt rfl (egs1 (egn sc_law_liars.nd) (egs1 (egn sc_law_liars.nd) (egs_nil)))))
    (vss_cons (vs_if (et_cmp (op_eqD hr.units) s_eq (eo_ev (ss 4)) (eo_ev (ev_int)) (nomark _)) (vss_one (vs_retX (ex_v (ev_tup (ea1 (eo_ev (ev_tup (ea_nil))) (ea_nil)))))) (vss_nil))
    (vss_cons (vs_if (et_cmp (op_ord (.inl rfl) (room80 hr)) s_ord (eo_ev (ss 4)) (eo_ev (ev_int)) (nomark _)) (vss_cons (vs_setX sc_law_liars.nd (ex_v (ev_x (ex_call (ok_law_take c) (hr.mono (by decide)) c.g_law_take c.F_law_take.kp (b_law_take c) (passAt tk) (ea1 (oo 0) (ea1 (eo_ev (ev_x (ex_add (eo_ev (ss 1)) (eo_ev (ev_int))))) (ea_nil)))))))
    (vss_cons (vs_setX sc_law_liars.nd (ex_v (ev_fz (el_lst (ea1 (eo_ev (ev_tup (ea_nil))) (ea_nil))))))
    (vss_cons (vfor (passes_of rfl) rfl (ei_seq (eo_ev (ss 3))) (egn sc_law_liars.nd) (vss_cons (vs_setX sc_law_liars.nd (ex_v (ev_x (ex_add (eo_ev (ss 6)) (eo_ev (ev_fz (comp2 [("one", 9)] rfl rfl sc_law_liars.nd (ei_seq (eo_ev (ss 6))) (blkOk_by (N := n_law_liars) (sc := defScope s_law_liars) (own := [("one", 9)]) (by decide +kernel)) (fun _ _ _ _ _ => egn sc_law_liars.nd) (fun _ _ _ _ _ => ets_one (et_cmp (op_ord (.inl rfl) (room80 hr)) s_ord (eo_ev (cB call_len s_len c.n_len (ea1 (eo_ev (ss 9)) (ea_nil)))) (eo_ev (ss 5)) (nomark _))) (fun _ _ _ _ _ => ev_x (ex_add (eo_ev (ss 9)) (eo_ev (ev_tup (ea1 (eo_ev (ss 7)) (ea_nil)))))) (by decide))))))))
    (vss_nil)))
    (vss_one (vs_retX (ex_v (ev_x (ex_call (ok_law_greatest c) (hr.mono (by decide)) c.g_law_greatest c.F_law_greatest.kp (b_law_greatest c) (passAt tk) (ea1 (eo_ev (ev_x (ex_slice (eo_ev (ev_fz (comp2 [("one", 9)] rfl rfl sc_law_liars.nd (ei_seq (eo_ev (ss 6))) (blkOk_by (N := n_law_liars) (sc := defScope s_law_liars) (own := [("one", 9)]) (by decide +kernel)) (fun _ _ _ _ _ => egn sc_law_liars.nd) (fun _ _ _ _ _ => ets_one (et_cmp (op_eqD hr.units) s_eq (eo_ev (cB call_len s_len c.n_len (ea1 (eo_ev (ss 9)) (ea_nil)))) (eo_ev (ss 5)) (nomark _))) (fun _ _ _ _ _ => ss 9) (by decide)))) (ep_none) (ep_some (ev_int))))) (ea_nil)))))))))) (vss_nil))
    (vss_cons (vs_setC2 [("turn", 8)] rfl rfl sc_law_liars.nd (rng1 c.n_range (ea1 (eo_ev (ev_x (ex_add (eo_ev (ev_int)) (eo_ev (ev_x (ex_call (ok_law_take c) (hr.mono (by decide)) c.g_law_take c.F_law_take.kp (b_law_take c) (passAt tk) (ea1 (oo 0) (ea1 (eo_ev (ev_int)) (ea_nil))))))))) (ea_nil))) (blkOk_by (N := n_law_liars) (sc := defScope s_law_liars) (own := [("turn", 8)]) (by decide +kernel)) (fun _ _ _ _ _ => egn sc_law_liars.nd) (fun _ _ _ _ _ => ets_nil) (fun _ _ _ _ _ => ev_x (ex_call (ok_law_drawn_lot c) (hr.mono (by decide)) c.g_law_drawn_lot c.F_law_drawn_lot.kp (b_law_drawn_lot c) passFL (ea1 (oo 0) (ea1 (eo_ev (ss 3)) (ea1 (eo_ev (ev_x (ex_call (ok_law_pick c) (hr.mono (by decide)) c.g_law_pick c.F_law_pick.kp (b_law_pick c) passFL (ea1 (oo 0) (ea1 (eo_ev (ev_fz (el_lst (ea1 (eo_ev (ev_int)) (ea1 (eo_ev (ev_int)) (ea1 (eo_ev (ev_int)) (ea_nil))))))) (ea_nil)))))) (ea_nil)))))) (sw_true rfl rfl rfl (by decide +kernel)) (by decide))
    (vss_frz 2 (vss_one (vs_retX (ex_v (ev_x (ex_call (ok_law_greatest c) (hr.mono (by decide)) c.g_law_greatest c.F_law_greatest.kp (b_law_greatest c) (passAt tk) (ea1 (eo_ev (ss 2)) (ea_nil))))))))))))
theorem b_law_town (c : Facts K mg) : Binds K c.d_law_town ["box", "most"] [] := c.F_law_town.bindsN fun _ _ _ _ _ _ us hl => match us, hl with | [_, _], _ => rfl
theorem ok_law_town (c : Facts K mg) : FnOk P w K mg base (L2.CX P w) 4 c.a_law_town c.d_law_town ["box", "most"] (SpOf K mg F_law_town) :=
  fn_ok (N := n_law_town) c.F_law_town sc_law_town rfl (by decide) fun cdv A outer s H E hr tk => (show VSs _ _ _ B_law_town from
    vss_cons (vs_setX sc_law_town.nd (ex_v (ev_x (ex_add (eo_ev (ev_int)) (eo_ev (cB (call_max2 rfl) s_max2 c.n_max (ea1 (eo_ev (ev_x (ex_call (ok_law_take c) (hr.mono (by decide)) c.g_law_take c.F_law_take.kp (b_law_take c) (passAt tk) (ea1 (oo 0) (ea1 (eo_ev (ss 1)) (ea_nil)))))) (ea1 (eo_ev (ev_x (ex_call (ok_law_take c) (hr.mono (by decide)) c.g_law_take c.F_law_take.kp (b_law_take c) (passAt tk) (ea1 (oo 0) (ea1 (eo_ev (ss 1)) (ea_nil)))))) (ea_nil)))))))))
    (vss_one (vs_retX (ex_v (ev_tup (ea1 (eo_ev (ss 2)) (ea1 (eo_ev (ev_x (ex_slice (eo_ev (ev_x (ex_call (ok_law_liars c) (hr.mono (by decide)) c.g_law_liars c.F_law_liars.kp (b_law_liars c) (passAt tk) (ea1 (oo 0) (ea1 (eo_ev (ss 2)) (ea_nil)))))) (ep_none) (ep_some (ev_int))))) (ea_nil))))))))
theorem b_deal0 (c : Facts K mg) : Binds K c.d_deal0 ["liars", "modulus", "secret", "picks"] [] := c.F_deal0.bindsN fun _ _ _ _ _ _ us hl => match us, hl with | [_, _, _, _], _ => rfl
theorem ok_deal0 (c : Facts K mg) : FnOk P w K mg base (L2.CX P w) 1 c.a_deal0 c.d_deal0 ["liars", "modulus", "secret", "picks"] (SpOf K mg F_deal0) :=
  fn_ok (N := n_deal0) c.F_deal0 sc_deal0 rfl (by decide) fun cdv A outer s H E hr tk => (show VSs _ _ _ B_deal0 from
    vss_one (vs_retX (ex_v (ev_x (ex_add (eo_ev (cT call_tuple_of s_tuple c.n_tuple (ea1 (eo_ev (ss 3)) (ea_nil)))) (eo_ev (ev_tup (ea1 (eo_ev (ev_bin op_mod s_mod (eo_ev (cT call_int1 s_toInt c.n_int (ea1 (eo_ev (ev_bin op_sub s_sub (eo_ev (ss 2)) (eo_ev (cB (cr_sum2 rfl) s_sum2 c.n_sum (ea1 (eo_ev (ss 3)) (ea_nil)))))) (ea_nil)))) (eo_ev (ss 1)))) (ea_nil)))))))))
theorem b_law_all_lots (c : Facts K mg) : Binds K c.d_law_all_lots ["houses"] [] := c.F_law_all_lots.bindsN fun _ _ _ _ _ _ us hl => match us, hl with | [_], _ => rfl
theorem ok_law_all_lots (c : Facts K mg) : FnOk P w K mg base (L2.CX P w) 1 c.a_law_all_lots c.d_law_all_lots ["houses"] (SpOf K mg F_law_all_lots) :=
  fn_ok (N := n_law_all_lots) c.F_law_all_lots sc_law_all_lots rfl (by decide) fun cdv A outer s H E hr tk => (show VSs _ _ _ B_law_all_lots from
    vss_cons (vs_setX sc_law_all_lots.nd (ex_v (ev_fz (el_lst (ea1 (eo_ev (ev_tup (ea_nil))) (ea_nil))))))
    (vss_cons (vfor (passes_of rfl) rfl (ei_seq (eo_ev (ss 0))) (egn sc_law_all_lots.nd) (vss_cons (vs_setX sc_law_all_lots.nd (ex_v (ev_x (ex_add (eo_ev (ss 1)) (eo_ev (ev_fz (comp2 [("one", 3)] rfl rfl sc_law_all_lots.nd (ei_seq (eo_ev (ss 1))) (blkOk_by (N := n_law_all_lots) (sc := defScope s_law_all_lots) (own := [("one", 3)]) (by decide +kernel)) (fun _ _ _ _ _ => egn sc_law_all_lots.nd) (fun _ _ _ _ _ => ets_nil) (fun _ _ _ _ _ => ev_x (ex_add (eo_ev (ss 3)) (eo_ev (ev_tup (ea1 (eo_ev (ss 2)) (ea_nil)))))) (by decide))))))))
    (vss_nil)))
    (vss_one (vs_retX (ex_v (ss 1))))))
theorem b_law_all_rows (c : Facts K mg) : Binds K c.d_law_all_rows ["modulus", "many"] [] := c.F_law_all_rows.bindsN fun _ _ _ _ _ _ us hl => match us, hl with | [_, _], _ => rfl
theorem ok_law_all_rows (c : Facts K mg) : FnOk P w K mg base (L2.CX P w) 1 c.a_law_all_rows c.d_law_all_rows ["modulus", "many"] (SpOf K mg F_law_all_rows) :=
  fn_ok (N := n_law_all_rows) c.F_law_all_rows sc_law_all_rows rfl (by decide) fun cdv A outer s H E hr tk => (show VSs _ _ _ B_law_all_rows from
    vss_cons (vs_setX sc_law_all_rows.nd (ex_v (ev_fz (el_lst (ea1 (eo_ev (ev_tup (ea_nil))) (ea_nil))))))
    (vss_cons (vfor (passes_of rfl) rfl (rng1 c.n_range (ea1 (eo_ev (ss 1)) (ea_nil))) (egn sc_law_all_rows.nd) (vss_cons (vs_setX sc_law_all_rows.nd (ex_l (el_lst (ea_nil))))
    (vss_cons (vfor (passes_of rfl) rfl (ei_seq (eo_ev (ss 2))) (egn sc_law_all_rows.nd) (vss_cons (vexp (ev_mut lookAll_ok (pe_bm PySem.F.plainAttrs_list PySem.F.slot_list_extend PySem.F.type_list_extend mt_extendA (pv 4) (ea1 (eo_ev (ev_fz (comp2 [("one", 6)] rfl rfl sc_law_all_rows.nd (rng1 c.n_range (ea1 (eo_ev (ss 0)) (ea_nil))) (blkOk_by (N := n_law_all_rows) (sc := defScope s_law_all_rows) (own := [("one", 6)]) (by decide +kernel)) (fun _ _ _ _ _ => egn sc_law_all_rows.nd) (fun _ _ _ _ _ => ets_nil) (fun _ _ _ _ _ => ev_x (ex_add (eo_ev (ss 5)) (eo_ev (ev_tup (ea1 (eo_ev (ss 6)) (ea_nil)))))) (by decide)))) (ea_nil)).pa) m_extend))
    (vss_nil)))
    (vss_frz 4 (vss_cons (vs_setX sc_law_all_rows.nd (ex_v (ss 4)))
    (vss_nil))))))
    (vss_one (vs_retX (ex_v (ss 2))))))
theorem b_law_row (c : Facts K mg) : Binds K c.d_law_row ["box", "modulus", "many"] [] := c.F_law_row.bindsN fun _ _ _ _ _ _ us hl => match us, hl with | [_, _, _], _ => rfl
theorem ok_law_row (c : Facts K mg) : FnOk P w K mg base (L2.CX P w) 2 c.a_law_row c.d_law_row ["box", "modulus", "many"] (SpOf K mg F_law_row) :=
  fn_ok (N := n_law_row) c.F_law_row sc_law_row rfl (by decide) fun cdv A outer s H E hr tk => (show VSs _ _ _ B_law_row from
    vss_one (vs_retX (ex_v (cT call_tuple_of s_tuple c.n_tuple (ea1 (eo_ev (ev_fz (comp2 [("turn", 3)] rfl rfl sc_law_row.nd (rng1 c.n_range (ea1 (eo_ev (ss 2)) (ea_nil))) (blkOk_by (N := n_law_row) (sc := defScope s_law_row) (own := [("turn", 3)]) (by decide +kernel)) (fun _ _ _ _ _ => egn sc_law_row.nd) (fun _ _ _ _ _ => ets_nil) (fun _ _ _ _ _ => ev_x (ex_call (ok_law_take c) (hr.mono (by decide)) c.g_law_take c.F_law_take.kp (b_law_take c) passFL (ea1 (oo 0) (ea1 (eo_ev (ss 1)) (ea_nil))))) (by decide)))) (ea_nil))))))
theorem b_dealings_for0 (c : Facts K mg) : Binds K c.d_dealings_for0 ["liars", "modulus", "rows"] [] := c.F_dealings_for0.bindsN fun _ _ _ _ _ _ us hl => match us, hl with | [_, _, _], _ => rfl
theorem ok_dealings_for0 (c : Facts K mg) : FnOk P w K mg base (L2.CX P w) 1 c.a_dealings_for0 c.d_dealings_for0 ["liars", "modulus", "rows"] (SpOf K mg F_dealings_for0) :=
  fn_ok (N := n_dealings_for0) c.F_dealings_for0 sc_dealings_for0 rfl (by decide) fun cdv A outer s H E hr tk => (show VSs _ _ _ B_dealings_for0 from
    vss_cons (vs_setX sc_dealings_for0.nd (ex_v (ev_bin op_mod s_mod (eo_ev (cB (cr_sum2 rfl) s_sum2 c.n_sum (ea1 (eo_ev (ev_fz (comp2 [("place", 7), ("piece", 8)] rfl rfl sc_dealings_for0.nd (ei_seq (eo_ev (ss 2))) (blkOk_by (N := n_dealings_for0) (sc := defScope s_dealings_for0) (own := [("place", 7), ("piece", 8)]) (by decide +kernel)) (fun _ _ _ _ _ => egt rfl (egs1 (egn sc_dealings_for0.nd) (egs1 (egn sc_dealings_for0.nd) (egs_nil)))) (fun _ _ _ _ _ => ets_nil) (fun _ _ _ _ _ => ss 8) (by decide)))) (ea_nil)))) (eo_ev (ss 1)))))
    (vss_cons (vs_setC2 [("secret", 6)] rfl rfl sc_dealings_for0.nd (rng1 c.n_range (ea1 (eo_ev (ss 1)) (ea_nil))) (blkOk_by (N := n_dealings_for0) (sc := defScope s_dealings_for0) (own := [("secret", 6)]) (by decide +kernel)) (fun _ _ _ _ _ => egn sc_dealings_for0.nd) (fun _ _ _ _ _ => ets_nil) (fun _ _ _ _ _ => ev_if (et_cmp (op_eqD hr.units) s_eq (eo_ev (ss 6)) (eo_ev (ss 3)) (nomark _)) (ev_int) (ev_int)) (sw_true rfl rfl rfl (by decide +kernel)) (by decide))
    (vss_frz 4 (vss_cons (vfor (passes_of rfl) rfl (rng1 c.n_range (ea1 (eo_ev (ev_bin op_sub s_sub (eo_ev (cB call_len s_len c.n_len (ea1 (eo_ev (ss 0)) (ea_nil)))) (eo_ev (cB call_len s_len c.n_len (ea1 (eo_ev (ss 2)) (ea_nil)))))) (ea_nil))) (egn sc_dealings_for0.nd) (vss_cons (vs_setX sc_dealings_for0.nd (ex_v (ev_fz (el_rep (el_lst (ea1 (eo_ev (cB (cr_sum2 rfl) s_sum2 c.n_sum (ea1 (eo_ev (ss 4)) (ea_nil)))) (ea_nil))) (eo_ev (ss 1))))))
    (vss_nil)))
    (vss_one (vs_retX (ex_v (cT call_tuple_of s_tuple c.n_tuple (ea1 (eo_ev (ss 4)) (ea_nil))))))))))
theorem b_law_may (c : Facts K mg) : Binds K c.d_law_may ["liars", "lot"] [] := c.F_law_may.bindsN fun _ _ _ _ _ _ us hl => match us, hl with | [_, _], _ => rfl
theorem ok_law_may (c : Facts K mg) : FnOk P w K mg base (L2.CX P w) 2 c.a_law_may c.d_law_may ["liars", "lot"] (SpOf K mg F_law_may) :=
  fn_ok (N := n_law_may) c.F_law_may sc_law_may rfl (by decide) fun cdv A outer s H E hr tk => (show VSs _ _ _ B_law_may from
    vss_one (vs_retX (ex_v (ev_cmp (op_neD hr.units) s_ne (eo_ev (ev_fz (comp2 [("one", 2)] rfl rfl sc_law_may.nd (ei_seq (eo_ev (ss 0))) (blkOk_by (N := n_law_may) (sc := defScope s_law_may) (own := [("one", 2)]) (by decide +kernel)) (fun _ _ _ _ _ => egn sc_law_may.nd) (fun _ _ _ _ _ => ets_one (eval_t (ev_x (ex_call (ok_law_within c) (hr.mono (by decide)) c.g_law_within c.F_law_within.kp (b_law_within c) passFL (ea1 (eo_ev (ss 1)) (ea1 (eo_ev (ss 2)) (ea_nil))))))) (fun _ _ _ _ _ => ev_int) (by decide)))) (eo_ev (ev_fz (el_lst (ea_nil)))) (nomark _)))))
theorem b_law_like (c : Facts K mg) : Binds K c.d_law_like ["told", "due"] [] := c.F_law_like.bindsN fun _ _ _ _ _ _ us hl => match us, hl with | [_, _], _ => rfl
theorem ok_law_like (c : Facts K mg) : FnOk P w K mg base (L2.CX P w) 1 c.a_law_like c.d_law_like ["told", "due"] (SpOf K mg F_law_like) :=
  fn_ok (N := n_law_like) c.F_law_like sc_law_like rfl (by decide) fun cdv A outer s H E hr tk => (show VSs _ _ _ B_law_like from
    vss_cons (vs_setX sc_law_like.nd (ex_l (el_lst (ea1 (eo_ev (ev_tup (ea1 (eo_ev (ss 0)) (ea1 (eo_ev (ss 1)) (ea_nil))))) (ea_nil)))))
    (vss_cons (vfor (passes_of rfl) rfl (rng1 c.n_range (ea1 (eo_ev (ev_int)) (ea_nil))) (egn sc_law_like.nd) (vss_cons (vs_if (et_cmp (op_eqD hr.units) s_eq (oo 2) (eo_ev (ev_fz (el_lst (ea_nil)))) (nomark _)) (vss_one (vs_retX (ex_v (ev_bl)))) (vss_nil))
    (vss_cons (asg (ev_mut0 (pe_bm0 PySem.F.plainAttrs_list PySem.F.slot_list_pop PySem.F.type_list_pop mt_pop (pv 2)) m_pop) (egt rfl (egs1 (egn sc_law_like.nd) (egs1 (egn sc_law_like.nd) (egs_nil)))))
    (vss_one (vs_if (et_cmp op_isN s_is (oo 5) (eo_ev (ev_non)) (nomark _)) (vss_one (vs_if (et_cmp op_notN s_isnot (oo 4) (eo_ev (ev_non)) (nomark _)) (vss_one (vs_retX (ex_v (ev_bl)))) (vss_nil))) (vss_one (vs_if (eval_t (isi c.n_isinstance (oo 5) (ety (T := "bool") c.n_bool))) (vss_one (vs_if ((ew_or (et_not (eval_t (isi c.n_isinstance (oo 4) (ety (T := "bool") c.n_bool)))) (ew_or1 (et_cmp (op_neD hr.units) s_ne (oo 4) (oo 5) (nomark _)))).et) (vss_one (vs_retX (ex_v (ev_bl)))) (vss_nil))) (vss_one (vs_if (eval_t (isi c.n_isinstance (oo 5) (ety (T := "tuple") c.n_tuple))) (vss_cons (vs_if ((ew_or (et_not (eval_t (isi c.n_isinstance (oo 4) (ety (T := "tuple") c.n_tuple)))) (ew_or1 (et_cmp (op_neD hr.units) s_ne (eo_ev (cB call_len s_len c.n_len (ea1 (oo 4) (ea_nil)))) (eo_ev (cB call_len s_len c.n_len (ea1 (oo 5) (ea_nil)))) (nomark _)))).et) (vss_one (vs_retX (ex_v (ev_bl)))) (vss_nil))
    (vss_one (vexp (ev_mut lookAll_ok (pe_bm PySem.F.plainAttrs_list PySem.F.slot_list_extend PySem.F.type_list_extend mt_extendA (pv 2) (ea1 (eo_ev (ev_fz (lzip rfl c.n_list c.n_zip (ea1 (oo 4) (ea1 (oo 5) (ea_nil)))))) (ea_nil)).pa) m_extend)))) (vss_one (vs_if (eval_t (isi c.n_isinstance (oo 5) (ety (T := "str") c.n_str))) (vss_one (vs_if ((ew_or (et_not (eval_t (isi c.n_isinstance (oo 4) (ety (T := "str") c.n_str)))) (ew_or1 (et_cmp (op_neD hr.units) s_ne (oo 4) (oo 5) (nomark _)))).et) (vss_one (vs_retX (ex_v (ev_bl)))) (vss_nil))) (vss_one (vs_if ((ew_or (et_not (eval_t (isi c.n_isinstance (oo 4) (ety (T := "int") c.n_int)))) (ew_or (eval_t (isi c.n_isinstance (oo 4) (ety (T := "bool") c.n_bool))) (ew_or1 (et_cmp (op_neD hr.units) s_ne (oo 4) (oo 5) (nomark _))))).et) (vss_one (vs_retX (ex_v (ev_bl)))) (vss_nil))))))))))))))
    (vss_one (vs_retX (ex_v (ev_bl))))))
theorem b_law_view (c : Facts K mg) : Binds K c.d_law_view ["liars", "pieces", "lot"] [] := c.F_law_view.bindsN fun _ _ _ _ _ _ us hl => match us, hl with | [_, _, _], _ => rfl
theorem ok_law_view (c : Facts K mg) : FnOk P w K mg base (L2.CX P w) 1 c.a_law_view c.d_law_view ["liars", "pieces", "lot"] (SpOf K mg F_law_view) :=
  fn_ok (N := n_law_view) c.F_law_view sc_law_view rfl (by decide) fun cdv A outer s H E hr tk => (show VSs _ _ _ B_law_view from
    vss_cons (vs_setX sc_law_view.nd (ex_l (el_lst (ea_nil))))
    (vss_cons (vfor (passes_of rfl) rfl (enumW c.n_enumerate (eo_ev (ss 1))) (egt rfl (egs1 (egn sc_law_view.nd) (egs1 (egn sc_law_view.nd) (egs_nil)))) (vss_cons (vs_if (et_cmp (op_neD hr.units) s_ne (eo_ev (ev_fz (comp2 [("house", 6)] rfl rfl sc_law_view.nd (ei_seq (eo_ev (ss 2))) (blkOk_by (N := n_law_view) (sc := defScope s_law_view) (own := [("house", 6)]) (by decide +kernel)) (fun _ _ _ _ _ => egn sc_law_view.nd) (fun _ _ _ _ _ => ets_one (et_cmp (op_notInS (room65 hr)) (s_in true) (eo_ev (ss 6)) (eo_ev (ev_ix ix_seq s_ix (eo_ev (ss 0)) (eo_ev (ss 4)) (by intro _ _; rfl))) (by with_unfolding_all rfl))) (fun _ _ _ _ _ => ev_int) (by decide)))) (eo_ev (ev_fz (el_lst (ea_nil)))) (nomark _)) (vss_cons (vexp (ev_mut agV_ok (pe_bm PySem.F.plainAttrs_list PySem.F.slot_list_append PySem.F.type_list_append mt_append (pv 3) (ea1 (eo_ev (ev_tup (ea1 (eo_ev (ss 4)) (ea1 (eo_ev (ss 5)) (ea_nil))))) (ea_nil)).pa) m_append))
    (vss_nil)) (vss_nil))
    (vss_nil)))
    (vss_frz 3 (vss_one (vs_retX (ex_v (cT call_tuple_of s_tuple c.n_tuple (ea1 (eo_ev (ss 3)) (ea_nil)))))))))
theorem b_is_within0 (c : Facts K mg) : Binds K c.d_is_within0 ["one", "two"] [] := c.F_is_within0.bindsN fun _ _ _ _ _ _ us hl => match us, hl with | [_, _], _ => rfl
theorem ok_is_within0 (c : Facts K mg) : FnOk P w K mg base (L2.CX P w) 1 c.a_is_within0 c.d_is_within0 ["one", "two"] (SpOf K mg F_is_within0) :=
  fn_ok (N := n_is_within0) c.F_is_within0 sc_is_within0 rfl (by decide) fun cdv A outer s H E hr tk => (show VSs _ _ _ B_is_within0 from
    vss_one (vs_retX (ex_v (cB (cr_all rfl) s_all c.n_all (ea1 (eo_ev (ev_fz (comp2 [("house", 2)] rfl rfl sc_is_within0.nd (ei_seq (eo_ev (ss 0))) (blkOk_by (N := n_is_within0) (sc := defScope s_is_within0) (own := [("house", 2)]) (by decide +kernel)) (fun _ _ _ _ _ => egn sc_is_within0.nd) (fun _ _ _ _ _ => ets_nil) (fun _ _ _ _ _ => ev_cmp (op_inS (room65 hr)) (s_in false) (eo_ev (ss 2)) (eo_ev (ss 1)) (by with_unfolding_all rfl)) (by decide)))) (ea_nil))))))
theorem b_seen0 (c : Facts K mg) : Binds K c.d_seen0 ["liars", "pieces", "lot"] [] := c.F_seen0.bindsN fun _ _ _ _ _ _ us hl => match us, hl with | [_, _, _], _ => rfl
theorem ok_seen0 (c : Facts K mg) : FnOk P w K mg base (L2.CX P w) 2 c.a_seen0 c.d_seen0 ["liars", "pieces", "lot"] (SpOf K mg F_seen0) :=
  fn_ok (N := n_seen0) c.F_seen0 sc_seen0 rfl (by decide) fun cdv A outer s H E hr tk => (show VSs _ _ _ B_seen0 from
    vss_one (vs_retX (ex_v (cT call_tuple_of s_tuple c.n_tuple (ea1 (eo_ev (ev_fz (comp2 [("place", 3), ("piece", 4)] rfl rfl sc_seen0.nd (enumW c.n_enumerate (eo_ev (ss 1))) (blkOk_by (N := n_seen0) (sc := defScope s_seen0) (own := [("place", 3), ("piece", 4)]) (by decide +kernel)) (fun _ _ _ _ _ => egt rfl (egs1 (egn sc_seen0.nd) (egs1 (egn sc_seen0.nd) (egs_nil)))) (fun _ _ _ _ _ => ets_one (et_not (eval_t (ev_x (ex_call (ok_is_within0 c) (hr.mono (by decide)) c.g_is_within0 c.F_is_within0.kp (b_is_within0 c) passFL (ea1 (eo_ev (ss 2)) (ea1 (eo_ev (ev_ix ix_seq s_ix (eo_ev (ss 0)) (eo_ev (ss 3)) (by intro _ _; rfl))) (ea_nil)))))))) (fun _ _ _ _ _ => ev_tup (ea1 (eo_ev (ss 3)) (ea1 (eo_ev (ss 4)) (ea_nil)))) (by decide)))) (ea_nil))))))
theorem b_secret_of0 (c : Facts K mg) : Binds K c.d_secret_of0 ["modulus", "pieces"] [] := c.F_secret_of0.bindsN fun _ _ _ _ _ _ us hl => match us, hl with | [_, _], _ => rfl
theorem ok_secret_of0 (c : Facts K mg) : FnOk P w K mg base (L2.CX P w) 1 c.a_secret_of0 c.d_secret_of0 ["modulus", "pieces"] (SpOf K mg F_secret_of0) :=
  fn_ok (N := n_secret_of0) c.F_secret_of0 sc_secret_of0 rfl (by decide) fun cdv A outer s H E hr tk => (show VSs _ _ _ B_secret_of0 from
    vss_one (vs_retX (ex_v (ev_bin op_mod s_mod (eo_ev (cB (cr_sum2 rfl) s_sum2 c.n_sum (ea1 (eo_ev (ss 1)) (ea_nil)))) (eo_ev (ss 0))))))
theorem b_law0 (c : Facts K mg) : Binds K c.d_law0 ["script"] [] := c.F_law0.bindsN fun _ _ _ _ _ _ us hl => match us, hl with | [_], _ => rfl
theorem ok_law0 (c : Facts K mg) : FnOk P w K mg base (L2.CX P w) 5 c.a_law0 c.d_law0 ["script"] (SpOf K mg F_law0) :=
  fn_ok (N := n_law0) c.F_law0 sc_law0 rfl (by decide) fun cdv A outer s H E hr tk => (show VSs _ _ _ B_law0 from
    vss_cons (vfor (passes_of rfl) rfl (rng1 c.n_range (ea1 (eo_ev (cB (call_max2 rfl) s_max2 c.n_max (ea1 (eo_ev (ev_int)) (ea1 (eo_ev (cB (call_min2 rfl) s_min2 c.n_min (ea1 (eo_ev (cB call_len s_len c.n_len (ea1 (eo_ev (ss 0)) (ea_nil)))) (ea1 (eo_ev (ev_int)) (ea_nil))))) (ea_nil))))) (ea_nil))) (egn sc_law0.nd) (vss_cons (vs_setX sc_law0.nd (ex_call (ok_law_box c) (hr.mono (by decide)) c.g_law_box c.F_law_box.kp (b_law_box c) (passAt tk) (ea1 (eo_ev (ss 0)) (ea1 (eo_ev (ss 1)) (ea_nil)))))
    (vss_cons (asg (ev_x (ex_call (ok_law_town c) (hr.mono (by decide)) c.g_law_town c.F_law_town.kp (b_law_town c) (passAt tk) (ea1 (oo 2) (ea1 (eo_ev (ev_int)) (ea_nil))))) (egt rfl (egs1 (egn sc_law0.nd) (egs1 (egn sc_law0.nd) (egs_nil)))))
    (vss_cons (vs_setX sc_law0.nd (ex_v (ev_x (ex_slice (eo_ev (ss 3)) (ep_none) (ep_some (ev_x (ex_call (ok_law_pick c) (hr.mono (by decide)) c.g_law_pick c.F_law_pick.kp (b_law_pick c) (passAt tk) (ea1 (oo 2) (ea1 (eo_ev (ev_fz (el_lst (ea1 (eo_ev (ev_int)) (ea1 (eo_ev (ev_int)) (ea1 (eo_ev (ev_int)) (ea1 (eo_ev (ev_int)) (ea1 (eo_ev (ev_int)) (ea_nil))))))))) (ea_nil))))))))))
    (vss_cons (vs_setX sc_law0.nd (ex_v (ev_x (ex_call (ok_law_pick c) (hr.mono (by decide)) c.g_law_pick c.F_law_pick.kp (b_law_pick c) (passAt tk) (ea1 (oo 2) (ea1 (eo_ev (ev_if (et_cmp (op_ord (.inl rfl) (room80 hr)) s_ord (eo_ev (cB call_len s_len c.n_len (ea1 (eo_ev (ss 3)) (ea_nil)))) (eo_ev (ev_int)) (nomark _)) (ev_fz (el_lst (ea1 (eo_ev (ev_int)) (ea1 (eo_ev (ev_int)) (ea1 (eo_ev (ev_int)) (ea_nil)))))) (ev_if (et_cmp (op_ord (.inl rfl) (room80 hr)) s_ord (eo_ev (cB call_len s_len c.n_len (ea1 (eo_ev (ss 3)) (ea_nil)))) (eo_ev (ev_int)) (nomark _)) (ev_fz (el_lst (ea1 (eo_ev (ev_int)) (ea1 (eo_ev (ev_int)) (ea_nil))))) (ev_fz (el_lst (ea1 (eo_ev (ev_int)) (ea_nil))))))) (ea_nil)))))))
    (vss_cons (vs_setX sc_law0.nd (ex_v (ev_x (ex_call (ok_law_take c) (hr.mono (by decide)) c.g_law_take c.F_law_take.kp (b_law_take c) (passAt tk) (ea1 (oo 2) (ea1 (eo_ev (ss 4)) (ea_nil)))))))
    (vss_cons (vs_setX sc_law0.nd (ex_v (ev_x (ex_call (ok_deal0 c) (hr.mono (by decide)) c.g_deal0 c.F_deal0.kp (b_deal0 c) (passAt tk) (ea1 (eo_ev (ss 3)) (ea1 (eo_ev (ss 4)) (ea1 (eo_ev (ss 5)) (ea1 (eo_ev (ev_x (ex_call (ok_law_row c) (hr.mono (by decide)) c.g_law_row c.F_law_row.kp (b_law_row c) (passAt tk) (ea1 (oo 2) (ea1 (eo_ev (ss 4)) (ea1 (eo_ev (ev_bin op_sub s_sub (eo_ev (cB call_len s_len c.n_len (ea1 (eo_ev (ss 3)) (ea_nil)))) (eo_ev (ev_int)))) (ea_nil))))))) (ea_nil)))))))))
    (vss_cons (vs_if ((ew_or (et_not (eval_t (isi c.n_isinstance (eo_ev (ss 6)) (ety (T := "tuple") c.n_tuple)))) (ew_or1 (et_cmp (op_neD hr.units) s_ne (eo_ev (cB call_len s_len c.n_len (ea1 (eo_ev (ss 6)) (ea_nil)))) (eo_ev (cB call_len s_len c.n_len (ea1 (eo_ev (ss 3)) (ea_nil)))) (nomark _)))).et) (vss_one (vs_retX (ex_v (ev_bl)))) (vss_nil))
    (vss_cons (vs_if (et_cmp (op_neD hr.units) s_ne (eo_ev (ev_fz (comp2 [("piece", 15)] rfl rfl sc_law0.nd (ei_seq (eo_ev (ss 6))) (blkOk_by (N := n_law0) (sc := defScope s_law0) (own := [("piece", 15)]) (by decide +kernel)) (fun _ _ _ _ _ => egn sc_law0.nd) (fun _ _ _ _ _ => ets_one ((ew_or (et_not (eval_t (isi c.n_isinstance (eo_ev (ss 15)) (ety (T := "int") c.n_int)))) (ew_or (eval_t (isi c.n_isinstance (eo_ev (ss 15)) (ety (T := "bool") c.n_bool))) (ew_or (et_cmp (op_ord (.inl rfl) (room80 hr)) s_ord (eo_ev (ss 15)) (eo_ev (ev_int)) (nomark _)) (ew_or1 (et_cmp (op_ord (.inr (.inr (.inr rfl))) (room80 hr)) s_ord (eo_ev (ss 15)) (eo_ev (ss 4)) (nomark _)))))).et)) (fun _ _ _ _ _ => ev_int) (by decide)))) (eo_ev (ev_fz (el_lst (ea_nil)))) (nomark _)) (vss_one (vs_retX (ex_v (ev_bl)))) (vss_nil))
    (vss_cons (vs_if ((ew_or (et_cmp (op_neD hr.units) s_ne (eo_ev (ev_bin op_mod s_mod (eo_ev (cT call_int1 s_toInt c.n_int (ea1 (eo_ev (cB (cr_sum2 rfl) s_sum2 c.n_sum (ea1 (eo_ev (ss 6)) (ea_nil)))) (ea_nil)))) (eo_ev (ss 4)))) (eo_ev (ss 5)) (nomark _)) (ew_or1 (et_not (eval_t (ev_x (ex_call (ok_law_like c) (hr.mono (by decide)) c.g_law_like c.F_law_like.kp (b_law_like c) (passAt tk) (ea1 (eo_ev (ev_x (ex_call (ok_secret_of0 c) (hr.mono (by decide)) c.g_secret_of0 c.F_secret_of0.kp (b_secret_of0 c) (passAt tk) (ea1 (eo_ev (ss 4)) (ea1 (eo_ev (ss 6)) (ea_nil)))))) (ea1 (eo_ev (ss 5)) (ea_nil))))))))).et) (vss_one (vs_retX (ex_v (ev_bl)))) (vss_nil))
    (vss_cons (vs_setX sc_law0.nd (ex_v (ev_x (ex_call (ok_law_all_lots c) (hr.mono (by decide)) c.g_law_all_lots c.F_law_all_lots.kp (b_law_all_lots c) (passAt tk) (ea1 (eo_ev (ev_fz (lstRg1 rfl c.n_list c.n_range (eo_ev (ss 10))))) (ea_nil))))))
    (vss_cons (vs_if (et_cmp (op_ord (.inr (.inr (.inl rfl))) (room80 hr)) s_ord (eo_ev (cB call_len s_len c.n_len (ea1 (eo_ev (ss 7)) (ea_nil)))) (eo_ev (ev_int)) (nomark _)) (vss_cons (vs_setC2 [("turn", 16)] rfl rfl sc_law0.nd (rng1 c.n_range (ea1 (eo_ev (ev_int)) (ea_nil))) (blkOk_by (N := n_law0) (sc := defScope s_law0) (own := [("turn", 16)]) (by decide +kernel)) (fun _ _ _ _ _ => egn sc_law0.nd) (fun _ _ _ _ _ => ets_nil) (fun _ _ _ _ _ => ev_x (ex_call (ok_law_drawn_lot c) (hr.mono (by decide)) c.g_law_drawn_lot c.F_law_drawn_lot.kp (b_law_drawn_lot c) passFL (ea1 (oo 2) (ea1 (eo_ev (ev_fz (lstRg1 rfl c.n_list c.n_range (eo_ev (ss 10))))) (ea1 (eo_ev (ev_x (ex_call (ok_law_pick c) (hr.mono (by decide)) c.g_law_pick c.F_law_pick.kp (b_law_pick c) passFL (ea1 (oo 2) (ea1 (eo_ev (ev_fz (el_lst (ea1 (eo_ev (ev_int)) (ea1 (eo_ev (ev_int)) (ea1 (eo_ev (ev_int)) (ea_nil))))))) (ea_nil)))))) (ea_nil)))))) (sw_true rfl rfl rfl (by decide +kernel)) (by decide))
    (vss_frz 7 (vss_nil))) (vss_nil))
    (vss_cons (vs_setX sc_law0.nd (ex_v (ev_x (ex_call (ok_law_all_rows c) (hr.mono (by decide)) c.g_law_all_rows c.F_law_all_rows.kp (b_law_all_rows c) (passAt tk) (ea1 (eo_ev (ss 4)) (ea1 (eo_ev (cB call_len s_len c.n_len (ea1 (eo_ev (ss 3)) (ea_nil)))) (ea_nil)))))))
    (vss_cons (vfor (passes_of rfl) rfl (ei_seq (eo_ev (ss 7))) (egn sc_law0.nd) (vss_cons (asgX2 rfl sc_law0.nd (by decide) (exs_cons (ex_v (ev_x (ex_call (ok_law_view c) (hr.mono (by decide)) c.g_law_view c.F_law_view.kp (b_law_view c) (passAt tk) (ea1 (eo_ev (ss 3)) (ea1 (eo_ev (ss 6)) (ea1 (eo_ev (ss 9)) (ea_nil))))))) (exs_cons (ex_l (el_rep (el_lst (ea1 (eo_ev (ev_int)) (ea_nil))) (eo_ev (ss 4)))) (exs_nil))))
    (vss_cons (vfor (passes_of rfl) rfl (ei_seq (eo_ev (ss 8))) (egn sc_law0.nd) (vss_cons (vs_if (et_cmp (op_eqD hr.units) s_eq (eo_ev (ev_fz (comp2 [("place", 18), ("piece", 15)] rfl rfl sc_law0.nd (ei_seq (eo_ev (ss 13))) (blkOk_by (N := n_law0) (sc := defScope s_law0) (own := [("place", 18), ("piece", 15)]) (by decide +kernel)) (fun _ _ _ _ _ => egt rfl (egs1 (egn sc_law0.nd) (egs1 (egn sc_law0.nd) (egs_nil)))) (fun _ _ _ _ _ => ets_one (et_cmp (op_neD hr.units) s_ne (eo_ev (ev_ix ix_seq s_ix (eo_ev (ss 11)) (eo_ev (ss 18)) (by intro _ _; rfl))) (eo_ev (ss 15)) (nomark _))) (fun _ _ _ _ _ => ev_int) (by decide)))) (eo_ev (ev_fz (el_lst (ea_nil)))) (nomark _)) (vss_cons (augS (ev_bin op_mod s_mod (eo_ev (cT call_int1 s_toInt c.n_int (ea1 (eo_ev (cB (cr_sum2 rfl) s_sum2 c.n_sum (ea1 (eo_ev (ss 11)) (ea_nil)))) (ea_nil)))) (eo_ev (ss 4))))
    (vss_nil)) (vss_nil))
    (vss_nil)))
    (vss_frz 14 (vss_cons (vs_setX sc_law0.nd (ex_v (ev_x (ex_call (ok_dealings_for0 c) (hr.mono (by decide)) c.g_dealings_for0 c.F_dealings_for0.kp (b_dealings_for0 c) (passAt tk) (ea1 (eo_ev (ss 3)) (ea1 (eo_ev (ss 4)) (ea1 (eo_ev (ev_x (ex_call (ok_seen0 c) (hr.mono (by decide)) c.g_seen0 c.F_seen0.kp (b_seen0 c) (passAt tk) (ea1 (eo_ev (ss 3)) (ea1 (eo_ev (ss 6)) (ea1 (eo_ev (ss 9)) (ea_nil))))))) (ea_nil))))))))
    (vss_cons (vs_if ((ew_or (et_not (eval_t (ev_x (ex_call (ok_law_like c) (hr.mono (by decide)) c.g_law_like c.F_law_like.kp (b_law_like c) (passAt tk) (ea1 (eo_ev (ss 12)) (ea1 (eo_ev (cT call_tuple_of s_tuple c.n_tuple (ea1 (eo_ev (ss 14)) (ea_nil)))) (ea_nil))))))) (ew_or1 (et_cmp (op_ord (.inl rfl) (room80 hr)) s_ord (eo_ev (ev_ix ix_seq s_ix (eo_ev (ss 12)) (eo_ev (ss 5)) (by intro _ _; rfl))) (eo_ev (ev_int)) (nomark _)))).et) (vss_one (vs_retX (ex_v (ev_bl)))) (vss_nil))
    (vss_cons (vs_if (eval_t (ev_x (ex_call (ok_law_may c) (hr.mono (by decide)) c.g_law_may c.F_law_may.kp (b_law_may c) (passAt tk) (ea1 (eo_ev (ss 3)) (ea1 (eo_ev (ss 9)) (ea_nil)))))) (vss_cons (vs_if (et_cmp (op_neD hr.units) s_ne (eo_ev (ev_fz (comp2 [("one", 17)] rfl rfl sc_law0.nd (ei_seq (eo_ev (ss 12))) (blkOk_by (N := n_law0) (sc := defScope s_law0) (own := [("one", 17)]) (by decide +kernel)) (fun _ _ _ _ _ => egn sc_law0.nd) (fun _ _ _ _ _ => ets_one (et_cmp (op_neD hr.units) s_ne (eo_ev (ss 17)) (eo_ev (ev_ix ix_seq s_ix (eo_ev (ss 12)) (eo_ev (ev_int)) (by intro _ _; rfl))) (nomark _))) (fun _ _ _ _ _ => ev_int) (by decide)))) (eo_ev (ev_fz (el_lst (ea_nil)))) (nomark _)) (vss_one (vs_retX (ex_v (ev_bl)))) (vss_nil))
    (vss_nil)) (vss_cons (vs_if (et_cmp (op_neD hr.units) s_ne (eo_ev (ev_fz (comp2 [("other", 19), ("one", 17)] rfl rfl sc_law0.nd (enumW c.n_enumerate (eo_ev (ss 12))) (blkOk_by (N := n_law0) (sc := defScope s_law0) (own := [("other", 19), ("one", 17)]) (by decide +kernel)) (fun _ _ _ _ _ => egt rfl (egs1 (egn sc_law0.nd) (egs1 (egn sc_law0.nd) (egs_nil)))) (fun _ _ _ _ _ => ets_one (et_cmp (op_neD hr.units) s_ne (eo_ev (ss 17)) (eo_ev (ev_if (et_cmp (op_eqD hr.units) s_eq (eo_ev (ss 19)) (eo_ev (ss 5)) (nomark _)) (ev_int) (ev_int))) (nomark _))) (fun _ _ _ _ _ => ev_int) (by decide)))) (eo_ev (ev_fz (el_lst (ea_nil)))) (nomark _)) (vss_one (vs_retX (ex_v (ev_bl)))) (vss_nil))
    (vss_nil)))
    (vss_nil))))))))
    (vss_nil)))))))))))))))
    (vss_one (vs_retX (ex_v (ev_bl)))))
end
def e_law_box : He.DefD := ⟨("_law_box", none), "_law_box", "_law_box", defArgs s_law_box, defBody s_law_box, defScope s_law_box, [], []⟩
def e_law_take : He.DefD := ⟨("_law_take", none), "_law_take", "_law_take", defArgs s_law_take, defBody s_law_take, defScope s_law_take, [], []⟩
def e_law_within : He.DefD := ⟨("_law_within", none), "_law_within", "_law_within", defArgs s_law_within, defBody s_law_within, defScope s_law_within, [], []⟩
def e_law_greatest : He.DefD := ⟨("_law_greatest", none), "_law_greatest", "_law_greatest", defArgs s_law_greatest, defBody s_law_greatest, defScope s_law_greatest, [], []⟩
def e_law_drawn_lot : He.DefD := ⟨("_law_drawn_lot", none), "_law_drawn_lot", "_law_drawn_lot", defArgs s_law_drawn_lot, defBody s_law_drawn_lot, defScope s_law_drawn_lot, [], []⟩
def e_law_pick : He.DefD := ⟨("_law_pick", none), "_law_pick", "_law_pick", defArgs s_law_pick, defBody s_law_pick, defScope s_law_pick, [], []⟩
def e_law_liars : He.DefD := ⟨("_law_liars", none), "_law_liars", "_law_liars", defArgs s_law_liars, defBody s_law_liars, defScope s_law_liars, [], []⟩
def e_law_town : He.DefD := ⟨("_law_town", none), "_law_town", "_law_town", defArgs s_law_town, defBody s_law_town, defScope s_law_town, [], []⟩
def e_deal0 : He.DefD := ⟨("deal", none), "deal", "deal", defArgs s_deal0, defBody s_deal0, defScope s_deal0, [], []⟩
def e_law_all_lots : He.DefD := ⟨("_law_all_lots", none), "_law_all_lots", "_law_all_lots", defArgs s_law_all_lots, defBody s_law_all_lots, defScope s_law_all_lots, [], []⟩
def e_law_all_rows : He.DefD := ⟨("_law_all_rows", none), "_law_all_rows", "_law_all_rows", defArgs s_law_all_rows, defBody s_law_all_rows, defScope s_law_all_rows, [], []⟩
def e_law_row : He.DefD := ⟨("_law_row", none), "_law_row", "_law_row", defArgs s_law_row, defBody s_law_row, defScope s_law_row, [], []⟩
def e_dealings_for0 : He.DefD := ⟨("dealings_for", none), "dealings_for", "dealings_for", defArgs s_dealings_for0, defBody s_dealings_for0, defScope s_dealings_for0, [], []⟩
def e_law_may : He.DefD := ⟨("_law_may", none), "_law_may", "_law_may", defArgs s_law_may, defBody s_law_may, defScope s_law_may, [], []⟩
def e_law_like : He.DefD := ⟨("_law_like", none), "_law_like", "_law_like", defArgs s_law_like, defBody s_law_like, defScope s_law_like, [], []⟩
def e_law_view : He.DefD := ⟨("_law_view", none), "_law_view", "_law_view", defArgs s_law_view, defBody s_law_view, defScope s_law_view, [], []⟩
def e_is_within0 : He.DefD := ⟨("is_within", none), "is_within", "is_within", defArgs s_is_within0, defBody s_is_within0, defScope s_is_within0, [], []⟩
def e_seen0 : He.DefD := ⟨("seen", none), "seen", "seen", defArgs s_seen0, defBody s_seen0, defScope s_seen0, [], []⟩
def e_secret_of0 : He.DefD := ⟨("secret_of", none), "secret_of", "secret_of", defArgs s_secret_of0, defBody s_secret_of0, defScope s_secret_of0, [], []⟩
def e_law0 : He.DefD := ⟨("law", none), "law", "law", defArgs s_law0, defBody s_law0, defScope s_law0, [], []⟩
def fn : List He.DefD := [e_law_box, e_law_take, e_law_within, e_law_greatest, e_law_drawn_lot, e_law_pick, e_law_liars, e_law_town, e_deal0, e_law_all_lots, e_law_all_rows, e_law_row, e_dealings_for0, e_law_may, e_law_like, e_law_view, e_is_within0, e_seen0, e_secret_of0, e_law0]
def fa : List He.Fa := [.glo "_law_box", .glo "_law_take", .glo "_law_within", .glo "_law_greatest", .glo "_law_drawn_lot", .glo "_law_pick", .glo "_law_liars", .glo "_law_town", .glo "deal", .glo "_law_all_lots", .glo "_law_all_rows", .glo "_law_row", .glo "dealings_for", .glo "_law_may", .glo "_law_like", .glo "_law_view", .glo "is_within", .glo "seen", .glo "secret_of", .glo "law", .free "len", .free "abs", .free "int", .free "sorted", .free "tuple", .free "set", .free "range", .free "max", .free "sum", .free "isinstance", .free "bool", .free "str", .free "list", .free "zip", .free "enumerate", .free "all", .free "min"]
abbrev R : PySem.W.OpenRow := PySem.W.OpenLaw.row PySem.Challenge.rw_nolieholds_k67_whole_what_lots_see_tells
abbrev hk : PySem.W.Hook := He.hookD 4 fa fn
def ob (s : PySem.W.SharedT) : He.AlD := He.obsDG 4 fa fn (HandSHeadRun.getT s)
theorem ob_eq (s : PySem.W.SharedT) : ob s = hk.obs s.abs := He.obsDG_eq (HandSHeadRun.getT_eq s)
def loose : List PySem.Str := ["is_within", "deal", "secret_of", "seen", "dealings_for", "_law_take", "_law_pick", "_law_like", "_law_within", "_law_greatest", "_law_drawn_lot", "_law_liars", "_law_all_lots", "_law_may", "_law_town", "_law_row", "_law_view", "_law_all_rows", "_law_box"]
set_option maxHeartbeats 0 in
theorem run (w : World) : HandSHeadRun.RunEq R (PySem.W.view R.prog [22]) hk ob 4000 loose w := by
  intro os
  kernel_rfl
noncomputable def facts {K : PySem.W.Frag} {h : Heap} {mg : Str → Option Value} (X : K.In h) (G : h.Ns mainGlobals mg) (c : He.SaysD fa fn K) : Facts K mg :=
  {
    a_law_box := _, d_law_box := (c.def_ 0 (d := e_law_box) rfl).choose, F_law_box := (c.def_ 0 (d := e_law_box) rfl).choose_spec, g_law_box := He.glo_ok X G (c.fact 0 (f := .glo "_law_box") rfl),
    a_law_take := _, d_law_take := (c.def_ 1 (d := e_law_take) rfl).choose, F_law_take := (c.def_ 1 (d := e_law_take) rfl).choose_spec, g_law_take := He.glo_ok X G (c.fact 1 (f := .glo "_law_take") rfl),
    a_law_within := _, d_law_within := (c.def_ 2 (d := e_law_within) rfl).choose, F_law_within := (c.def_ 2 (d := e_law_within) rfl).choose_spec, g_law_within := He.glo_ok X G (c.fact 2 (f := .glo "_law_within") rfl),
    a_law_greatest := _, d_law_greatest := (c.def_ 3 (d := e_law_greatest) rfl).choose, F_law_greatest := (c.def_ 3 (d := e_law_greatest) rfl).choose_spec, g_law_greatest := He.glo_ok X G (c.fact 3 (f := .glo "_law_greatest") rfl),
    a_law_drawn_lot := _, d_law_drawn_lot := (c.def_ 4 (d := e_law_drawn_lot) rfl).choose, F_law_drawn_lot := (c.def_ 4 (d := e_law_drawn_lot) rfl).choose_spec, g_law_drawn_lot := He.glo_ok X G (c.fact 4 (f := .glo "_law_drawn_lot") rfl),
    a_law_pick := _, d_law_pick := (c.def_ 5 (d := e_law_pick) rfl).choose, F_law_pick := (c.def_ 5 (d := e_law_pick) rfl).choose_spec, g_law_pick := He.glo_ok X G (c.fact 5 (f := .glo "_law_pick") rfl),
    a_law_liars := _, d_law_liars := (c.def_ 6 (d := e_law_liars) rfl).choose, F_law_liars := (c.def_ 6 (d := e_law_liars) rfl).choose_spec, g_law_liars := He.glo_ok X G (c.fact 6 (f := .glo "_law_liars") rfl),
    a_law_town := _, d_law_town := (c.def_ 7 (d := e_law_town) rfl).choose, F_law_town := (c.def_ 7 (d := e_law_town) rfl).choose_spec, g_law_town := He.glo_ok X G (c.fact 7 (f := .glo "_law_town") rfl),
    a_deal0 := _, d_deal0 := (c.def_ 8 (d := e_deal0) rfl).choose, F_deal0 := (c.def_ 8 (d := e_deal0) rfl).choose_spec, g_deal0 := He.glo_ok X G (c.fact 8 (f := .glo "deal") rfl),
    a_law_all_lots := _, d_law_all_lots := (c.def_ 9 (d := e_law_all_lots) rfl).choose, F_law_all_lots := (c.def_ 9 (d := e_law_all_lots) rfl).choose_spec, g_law_all_lots := He.glo_ok X G (c.fact 9 (f := .glo "_law_all_lots") rfl),
    a_law_all_rows := _, d_law_all_rows := (c.def_ 10 (d := e_law_all_rows) rfl).choose, F_law_all_rows := (c.def_ 10 (d := e_law_all_rows) rfl).choose_spec, g_law_all_rows := He.glo_ok X G (c.fact 10 (f := .glo "_law_all_rows") rfl),
    a_law_row := _, d_law_row := (c.def_ 11 (d := e_law_row) rfl).choose, F_law_row := (c.def_ 11 (d := e_law_row) rfl).choose_spec, g_law_row := He.glo_ok X G (c.fact 11 (f := .glo "_law_row") rfl),
    a_dealings_for0 := _, d_dealings_for0 := (c.def_ 12 (d := e_dealings_for0) rfl).choose, F_dealings_for0 := (c.def_ 12 (d := e_dealings_for0) rfl).choose_spec, g_dealings_for0 := He.glo_ok X G (c.fact 12 (f := .glo "dealings_for") rfl),
    a_law_may := _, d_law_may := (c.def_ 13 (d := e_law_may) rfl).choose, F_law_may := (c.def_ 13 (d := e_law_may) rfl).choose_spec, g_law_may := He.glo_ok X G (c.fact 13 (f := .glo "_law_may") rfl),
    a_law_like := _, d_law_like := (c.def_ 14 (d := e_law_like) rfl).choose, F_law_like := (c.def_ 14 (d := e_law_like) rfl).choose_spec, g_law_like := He.glo_ok X G (c.fact 14 (f := .glo "_law_like") rfl),
    a_law_view := _, d_law_view := (c.def_ 15 (d := e_law_view) rfl).choose, F_law_view := (c.def_ 15 (d := e_law_view) rfl).choose_spec, g_law_view := He.glo_ok X G (c.fact 15 (f := .glo "_law_view") rfl),
    a_is_within0 := _, d_is_within0 := (c.def_ 16 (d := e_is_within0) rfl).choose, F_is_within0 := (c.def_ 16 (d := e_is_within0) rfl).choose_spec, g_is_within0 := He.glo_ok X G (c.fact 16 (f := .glo "is_within") rfl),
    a_seen0 := _, d_seen0 := (c.def_ 17 (d := e_seen0) rfl).choose, F_seen0 := (c.def_ 17 (d := e_seen0) rfl).choose_spec, g_seen0 := He.glo_ok X G (c.fact 17 (f := .glo "seen") rfl),
    a_secret_of0 := _, d_secret_of0 := (c.def_ 18 (d := e_secret_of0) rfl).choose, F_secret_of0 := (c.def_ 18 (d := e_secret_of0) rfl).choose_spec, g_secret_of0 := He.glo_ok X G (c.fact 18 (f := .glo "secret_of") rfl),
    a_law0 := _, d_law0 := (c.def_ 19 (d := e_law0) rfl).choose, F_law0 := (c.def_ 19 (d := e_law0) rfl).choose_spec, g_law0 := He.glo_ok X G (c.fact 19 (f := .glo "law") rfl),
    n_len := He.free_ok X G (c.fact 20 (f := .free "len") rfl),
    n_abs := He.free_ok X G (c.fact 21 (f := .free "abs") rfl),
    n_int := He.free_ok X G (c.fact 22 (f := .free "int") rfl),
    n_sorted := He.free_ok X G (c.fact 23 (f := .free "sorted") rfl),
    n_tuple := He.free_ok X G (c.fact 24 (f := .free "tuple") rfl),
    n_set := He.free_ok X G (c.fact 25 (f := .free "set") rfl),
    n_range := He.free_ok X G (c.fact 26 (f := .free "range") rfl),
    n_max := He.free_ok X G (c.fact 27 (f := .free "max") rfl),
    n_sum := He.free_ok X G (c.fact 28 (f := .free "sum") rfl),
    n_isinstance := He.free_ok X G (c.fact 29 (f := .free "isinstance") rfl),
    n_bool := He.free_ok X G (c.fact 30 (f := .free "bool") rfl),
    n_str := He.free_ok X G (c.fact 31 (f := .free "str") rfl),
    n_list := He.free_ok X G (c.fact 32 (f := .free "list") rfl),
    n_zip := He.free_ok X G (c.fact 33 (f := .free "zip") rfl),
    n_enumerate := He.free_ok X G (c.fact 34 (f := .free "enumerate") rfl),
    n_all := He.free_ok X G (c.fact 35 (f := .free "all") rfl),
    n_min := He.free_ok X G (c.fact 36 (f := .free "min") rfl) }
end VP

set_option Elab.async false
set_option linter.all false
set_option autoImplicit false
set_option maxRecDepth 100000
set_option maxHeartbeats 4000000
namespace VP
open PySem L2 VL
theorem box_ok (ns : List Int) (k : Nat) : IsBx (Q_law_box (.scr ns) (.int k)) := by
  unfold Q_law_box QB_law_box
  by_cases h : k < ns.length
  · obtain ⟨n, hn⟩ := atI_in (l := ns) (i := (k : Int)) (by omega) (by omega)
    simp -implicitDefEqProofs [h, hn, sMul_left, sMul_right, sMod_int, sPow_int]
    exact IsBx.mk _ _
  · by_cases h0 : 0 < ns.length
    · have h0' : (0 : Int) < ns.length := by omega
      obtain ⟨n, hn⟩ := atI_in (l := ns) (i := (k : Int) % (ns.length : Int)) (Int.emod_nonneg _ (by omega)) (Int.emod_lt_of_pos _ h0')
      simp -implicitDefEqProofs [h, h0, h0', hn, sMul_left, sMul_right, sMod_int, sPow_int]
      exact IsBx.mk _ _
    · simp -implicitDefEqProofs [h, h0, sMul_left, sMul_right, sMod_int, sPow_int]
      exact IsBx.mk _ _
def fitR (rs : List (Int × Nat)) (row : List Int) : Bool := rs.all fun p => decide (row.getD p.2 0 = p.1)
abbrev stP (mo : Nat) (f : Int → Int) : PV := .lst ((hsI mo).map fun c => .int (f c))
theorem fitR_filter (rs : List (Int × Nat)) (row : List Int) : (rs.filter fun p => !decide (row.getD p.2 0 = p.1)).isEmpty = fitR rs row := by
  unfold fitR
  induction rs with
  | nil => rfl
  | cons p rs ih =>
    by_cases h : row.getD p.2 0 = p.1
    · rw [List.filter_cons_of_neg (by rw [decide_eq_true h]; decide), List.all_cons, decide_eq_true h, Bool.true_and]; exact ih
    · rw [List.filter_cons_of_pos (by rw [decide_eq_false h]; rfl), List.all_cons, decide_eq_false h]; rfl
theorem aug_st {mo : Nat} {f : Int → Int} {k : Int} (h0 : 0 ≤ k) (h1 : k < mo) : augO ((hsI mo).map fun c => .int (f c)) 1 (.int k) = some (stP mo fun c => f c + if k = c then 1 else 0) := by
  have hl : ((hsI mo).map fun c => PV.int (f c)).length = mo := by rw [List.length_map, hsI_len]
  have hg : ((hsI mo).map fun c => PV.int (f c))[k.toNat]? = some (.int (f k)) := by
    unfold hsI
    rw [List.getElem?_map, List.getElem?_map, List.getElem?_range (by omega)]
    simp
    congr 1
    omega
  show ((augL _ k 1).map PV.lst) = _
  unfold augL
  rw [if_pos (by rw [hl]; omega), hg]
  show some (PV.lst _) = some (PV.lst _)
  congr 2
  apply List.ext_getElem?
  intro i
  rw [List.getElem?_set]
  unfold hsI
  by_cases hi : i < mo
  · by_cases e : k.toNat = i
    · rw [if_pos e]
      subst e
      simp [hi]
      rw [if_pos (by omega)]
      rw [show max k 0 = k by omega]
    · rw [if_neg e]
      simp [hi]
      rw [if_neg (by omega)]
      omega
  · rw [List.getElem?_eq_none (l := List.map _ (List.map _ _)) (by simp; omega)]
    split
    · omega
    · rw [List.getElem?_eq_none (by simp; omega)]
theorem count_step {mo n : Nat} {rs : List (Int × Nat)} {row : List Int} {f : Int → Int} (hm : 0 < mo) (hm2 : mo ≤ 1000) (hr : row.length = n) (hn : n ≤ 1000) (hrs : ∀ p ∈ rs, p.2 < n) (hl : rs.length ≤ 1000) : (QL1_law0 (.int (mo : Int)) (.tup (rs.map rowP)) (stP mo f) [tupI row] : M PV (Ct PV PV)) = mP (.nx (stP mo fun c => f c + if (fitR rs row && decide (row.sum % (mo : Int) = c)) = true then 1 else 0)) := by
  have c : (compQ (fun p : Int × Nat => mB (mO (sIx (tupI row) (.int (p.2 : Nat)))) fun a => mB (mO (sNe a (.int p.1))) isB) (fun _ => mP (PV.int 1)) rs : M PV (List PV)) = mP ((rs.filter fun p => !decide (row.getD p.2 0 = p.1)).map fun _ => .int 1) :=
    compQ_eq _ _ rs (fun p hp => by
      have h := hrs p hp
      rw [sIxT PV.int row (show p.2 < row.length by omega)]
      simp [List.getD_eq_getElem?_getD, show p.2 < row.length by omega]) (fun _ _ _ => rfl)
  have e := fitR_filter rs row
  have h0 := Int.emod_nonneg row.sum (show (mo : Int) ≠ 0 by omega)
  have h1 := Int.emod_lt_of_pos row.sum (show (0 : Int) < mo by omega)
  have ag := aug_st (f := f) h0 h1
  unfold QL1_law0
  cases hf : fitR rs row with
  | true =>
    rw [hf] at e
    simp -implicitDefEqProofs [ptAll_rows, short_ok, show rs.length ≤ 16777216 by omega, c, e, sMod_i (show (0 : Int) < mo by omega), -List.isEmpty_iff, -List.getD_eq_getElem?_getD, ag]
  | false =>
    rw [hf] at e
    simp -implicitDefEqProofs [ptAll_rows, short_ok, show rs.length ≤ 16777216 by omega, c, e, sMod_i (show (0 : Int) < mo by omega), -List.isEmpty_iff, -List.getD_eq_getElem?_getD, ag]
theorem zipIdx_rng {α : Type} (xs : List α) (d : α) : xs.zipIdx = (List.range xs.length).map fun i => (xs.getD i d, i) := by
  apply List.ext_getElem?
  intro i
  rw [List.getElem?_zipIdx, List.getElem?_map]
  by_cases h : i < xs.length
  · rw [List.getElem?_range h, List.getElem?_eq_getElem h]
    simp [List.getD_eq_getElem?_getD, h]
  · rw [List.getElem?_eq_none (by omega), List.getElem?_eq_none (by simp; omega)]
    rfl
abbrev snF (ks : List (List Int)) (lot : List Int) (i : Nat) : Bool := !subI lot (ks.getD i [])
abbrev pvF (P : List Int) (i : Nat) : Int := P.getD i 0
theorem seen_rng (ks : List (List Int)) (P lot : List Int) : seenL ks P lot = ((List.range P.length).filter (snF ks lot)).map fun i => (pvF P i, i) := by
  unfold seenL
  rw [zipIdx_rng P 0, List.filter_map]
  rfl
theorem fit_eq {ks : List (List Int)} {P lot row : List Int} (h : row.length = P.length) : fitR (seenL ks P lot) row = fitB (snF ks lot) (pvF P) row := by
  unfold fitR fitB
  rw [seen_rng, zipIdx_rng row 0, h, List.all_map, List.all_map, List.all_filter]
  congr 1
theorem free_eq (ks : List (List Int)) (P lot : List Int) : free (snF ks lot) P.length = P.length - (seenL ks P lot).length := by
  rw [seen_rng, List.length_map]
  unfold free
  have : ∀ (p : Nat → Bool) (l : List Nat), (l.filter p).length + (l.filter fun i => !p i).length = l.length := by
    intro p l
    induction l with
    | nil => rfl
    | cons x l ih => cases h : p x <;> simp [h] <;> omega
  have := this (snF ks lot) (List.range P.length)
  rw [List.length_range] at this
  omega
theorem fixed_eq (ks : List (List Int)) (P lot : List Int) : fixed (snF ks lot) (pvF P) P.length = totL (seenL ks P lot) := by
  unfold fixed totL
  rw [seen_rng, List.map_map]
  rfl
def cv (mo left : Nat) (t c : Int) : Int := if left = 0 then (if c = t then 1 else 0) else (mo : Int) ^ (left - 1)
theorem cnts_cv (mo left : Nat) (t : Int) : cnts mo left t = (hsI mo).map (cv mo left t) := by
  unfold cnts cv
  cases left with
  | zero => rfl
  | succ n =>
    show List.replicate mo ((mo : Int) ^ n) = (hsI mo).map fun c => (mo : Int) ^ n
    rw [List.map_const', hsI_len]
theorem foldl_cnt (p : Int → List Int → Bool) : ∀ (rows : List (List Int)) (f : Int → Int), rows.foldl (fun f row => fun c => f c + if p c row = true then 1 else 0) f = fun c => f c + (rows.countP (p c) : Nat)
  | [], f => by funext c; simp
  | r :: rows, f => by
    rw [List.foldl_cons, foldl_cnt p rows]
    funext c
    rw [List.countP_cons]
    split <;> simp <;> omega
theorem counts_ok {mo n : Nat} {ks : List (List Int)} {P lot : List Int} (hm : 0 < mo) (hm2 : mo ≤ 100) (hn : P.length = n) (hn2 : n ≤ 100) (hp : ∀ p ∈ P, 0 ≤ p ∧ p < mo) :
    (forM (fun t a => QL1_law0 (.int (mo : Int)) (.tup ((seenL ks P lot).map rowP)) t [tupI a]) (allR mo n) (stP mo fun _ => 0) : M PV (Ct PV Unit)) = mP (.nx (.lst ((cnts mo (n - (seenL ks P lot).length) (totL (seenL ks P lot) % mo)).map .int))) := by
  have hrs : ∀ p ∈ seenL ks P lot, p.2 < n := fun p hpp => by
    obtain ⟨h, _⟩ := mem_zip (List.mem_filter.mp hpp).1
    omega
  have hl : (seenL ks P lot).length ≤ n := by
    have := List.length_filter_le (fun p : Int × Nat => !subI lot (ks.getD p.2 [])) P.zipIdx
    rw [List.length_zipIdx] at this
    show (List.filter _ P.zipIdx).length ≤ n
    omega
  obtain ⟨h, _⟩ := forM_typ (β := Unit) (σ := PV) (body := fun t a => QL1_law0 (.int (mo : Int)) (.tup ((seenL ks P lot).map rowP)) t [tupI a]) (fun f => stP mo f) (fun f row => fun c => f c + if (fitR (seenL ks P lot) row && decide (row.sum % (mo : Int) = c)) = true then 1 else 0) (fun _ => True) (allR mo n) (fun _ => 0) trivial (fun row hr f _ => ⟨count_step hm (by omega) (allR_row n row hr) (by omega) hrs (by omega), trivial⟩)
  rw [h, foldl_cnt (fun c row => fitR (seenL ks P lot) row && decide (row.sum % (mo : Int) = c))]
  rw [cnts_cv]
  congr 2
  rw [List.map_map]
  show PV.lst ((hsI mo).map _) = PV.lst _
  congr 1
  apply List.map_congr_left
  intro c hc
  have hc := mem_hs.mp hc
  have e : (allR mo n).countP (fun row => fitR (seenL ks P lot) row && decide (row.sum % (mo : Int) = c)) = (allR mo n).countP (cntB mo (snF ks lot) (pvF P) c) := by
    apply List.countP_congr
    intro row hr
    unfold cntB
    rw [fit_eq (by rw [allR_row n row hr, hn])]
  have k := fit_sum (mo := mo) (sn := snF ks lot) (pv := pvF P) hm (fun i _ => by
    show 0 ≤ P.getD i 0 ∧ P.getD i 0 < mo
    by_cases hi : i < P.length
    · have := hp _ (List.getElem_mem hi)
      simpa [List.getD_eq_getElem?_getD, hi] using this
    · simp [List.getD_eq_getElem?_getD, List.getElem?_eq_none (show P.length ≤ i by omega)]
      omega) n c hc.1 hc.2
  show PV.int (0 + ((allR mo n).countP _ : Nat)) = PV.int (cv mo _ _ c)
  rw [e, k, ← hn, free_eq, fixed_eq]
  unfold cv
  congr 1
  split
  · split <;> rfl
  · simp
theorem like_ints (ps : List Int) (h : ps.length < 900000) : Q_law_like (tupI ps) (tupI ps) = mP (.bl true) := by
  refine Q_like_ok ?_ ?_
  · show (ps.map PV.int).all (okL 29) = true
    simp [okL]
  · show szPs (ps.map .int) + 1 < 999999
    have : ∀ l : List Int, szPs (l.map .int) = l.length := by
      intro l
      induction l with
      | nil => rfl
      | cons a l ih => simp only [List.map_cons, szPs, szP, ih, List.length_cons]; omega
    rw [this]; omega
theorem seen_may {ks : List (List Int)} {P lot : List Int} (h : ks.length = P.length) : mayB ks lot = true ↔ (seenL ks P lot).length < P.length := by
  have hl : (seenL ks P lot).length ≤ P.length := by
    have := List.length_filter_le (fun p : Int × Nat => !subI lot (ks.getD p.2 [])) P.zipIdx
    rw [List.length_zipIdx] at this
    exact this
  have key : (seenL ks P lot).length = P.length ↔ ∀ i < P.length, snF ks lot i = true := by
    rw [seen_rng, List.length_map]
    have := List.length_filter_eq_length_iff (p := snF ks lot) (l := List.range P.length)
    rw [List.length_range] at this
    rw [this]
    exact ⟨fun h i hi => h i (List.mem_range.mpr hi), fun h i hi => h i (List.mem_range.mp hi)⟩
  constructor
  · intro hmay
    unfold mayB at hmay
    obtain ⟨k, hk, hsub⟩ := List.any_eq_true.mp hmay
    obtain ⟨i, hi, rfl⟩ := List.mem_iff_getElem.mp hk
    rcases Nat.lt_or_eq_of_le hl with h1 | h1
    · exact h1
    · have h2 : (!subI lot (ks.getD i [])) = true := key.mp h1 i (by omega)
      rw [List.getD_eq_getElem?_getD, List.getElem?_eq_getElem hi, Option.getD_some, hsub] at h2
      cases h2
  · intro hlt
    apply Classical.byContradiction
    intro hn
    have : (seenL ks P lot).length = P.length := key.mpr fun i hi => by
      show (!subI lot (ks.getD i [])) = true
      rw [List.getD_eq_getElem?_getD, List.getElem?_eq_getElem (by omega), Option.getD_some]
      cases hsub : subI lot (ks[i]'(by omega)) with
      | false => rfl
      | true => exact absurd (List.any_eq_true.mpr ⟨_, List.getElem_mem (by omega), hsub⟩) hn
    omega
theorem seen_sum {ks : List (List Int)} {P lot : List Int} (h : (seenL ks P lot).length = P.length) : totL (seenL ks P lot) = P.sum := by
  have e : seenL ks P lot = P.zipIdx := by
    unfold seenL at h ⊢
    refine List.filter_eq_self.mpr ?_
    have := List.length_filter_eq_length_iff (p := fun p : Int × Nat => !subI lot (ks.getD p.2 [])) (l := P.zipIdx)
    rw [List.length_zipIdx] at this
    exact this.mp h
  rw [e]
  unfold totL
  congr 1
  apply List.ext_getElem?
  intro i
  rw [List.getElem?_map, List.getElem?_zipIdx]
  cases P[i]? <;> rfl
theorem told_ix {mo : Nat} {g : Int → Int} {i : Int} (h0 : 0 ≤ i) (h1 : i < mo) : sIx (tupI ((hsI mo).map g)) (.int i) = some (.int (g i)) := by
  have := sIxT PV.int ((hsI mo).map g) (i := i.toNat) (by rw [List.length_map, hsI_len]; omega)
  rw [show ((i.toNat : Nat) : Int) = i by omega] at this
  rw [show tupI ((hsI mo).map g) = .tup (((hsI mo).map g).map .int) from rfl, this]
  congr 2
  unfold hsI
  simp
  congr 1
  omega
theorem lot_ok {mo n : Nat} {ks : List (List Int)} {P lot : List Int} {s : Int} (hm : 2 ≤ mo) (hm2 : mo ≤ 100) (hk : ks.length = n) (hn : P.length = n) (hn2 : n ≤ 100) (hr : mo ^ n ≤ 100000) (hlot : lot.length ≤ 1000) (hp : ∀ p ∈ P, 0 ≤ p ∧ p < mo) (s0 : 0 ≤ s) (s1 : s < mo) (hs : P.sum % (mo : Int) = s) :
    Dr (QL2_law0 (lotsP ks) (.int (mo : Int)) (.int s) (tupI P) (lotsL (allR mo n)) () [tupI lot]) fun c => c = .nx () ∨ c = .ct () := by
  have hl : (seenL ks P lot).length ≤ n := by
    have := List.length_filter_le (fun p : Int × Nat => !subI lot (ks.getD p.2 [])) P.zipIdx
    rw [List.length_zipIdx] at this
    show (List.filter _ P.zipIdx).length ≤ n
    omega
  have e1 := Q_view_ok (ks := ks) (ps := P) (lot := lot) (by omega) (by omega) hlot
  have e2 := Q_seen_ok (ks := ks) (ps := P) (lot := lot) (by omega) (by omega) hlot
  have e3 := Q_dealings_ok (ks := ks) (m := mo) (rs := seenL ks P lot) (by omega) (by omega) (by omega) (by omega)
  rw [hk] at e3
  have e4 := repS_1 (.int 0) (k := (mo : Int)) (by omega) (by omega)
  have e5 := counts_ok (mo := mo) (ks := ks) (P := P) (lot := lot) (by omega) hm2 hn hn2 hp
  have er : PV.lst (List.replicate (mo : Int).toNat (.int 0)) = stP mo fun _ => 0 := by
    show _ = PV.lst ((hsI mo).map fun _ => PV.int 0)
    rw [List.map_const', hsI_len, Int.toNat_natCast]
  rw [er] at e4
  have sm := seen_may (ks := ks) (P := P) (lot := lot) (by omega)
  have ss := seen_sum (ks := ks) (P := P) (lot := lot)
  rw [cnts_cv] at e3 e5
  generalize hrs : seenL ks P lot = rs at *
  generalize hleft : n - rs.length = left at *
  have pos : ∀ k : Nat, 1 ≤ (mo : Int) ^ k := fun k => by
    have : 0 < (mo : Int) ^ k := Int.pow_pos (by omega)
    omega
  have v1 : 1 ≤ cv mo left (totL rs % mo) s := by
    unfold cv
    split
    · rw [ss (by omega), hs, if_pos rfl]; exact Int.le_refl 1
    · exact pos _
  have lc : ((hsI mo).map (cv mo left (totL rs % mo))).length = mo := by rw [List.length_map, hsI_len]
  have e6 := like_ints ((hsI mo).map (cv mo left (totL rs % mo))) (by omega)
  have hlr := allR_len mo n
  have st : sTuple [.lst (((hsI mo).map (cv mo left (totL rs % mo))).map .int)] = some (tupI ((hsI mo).map (cv mo left (totL rs % mo)))) := rfl
  have ix1 := told_ix (g := cv mo left (totL rs % mo)) s0 s1
  have ix0 := told_ix (mo := mo) (g := cv mo left (totL rs % mo)) (i := 0) (by omega) (by omega)
  have my := Q_may ks lot (by omega) (by omega)
  unfold QL2_law0
  simp -implicitDefEqProofs [e1, e2, e3, e4, short_ok, hlr, show mo ^ n ≤ 16777216 by omega, -List.map_map]
  rw [e5]
  cases hmy : mayB ks lot with
  | true =>
    rw [hmy] at my
    have hlt := sm.mp hmy
    simp -implicitDefEqProofs [st, e6, ix1, ix0, my, show ¬ cv mo left (totL rs % mo) s < 1 by omega, short_ok, lc, show mo ≤ 16777216 by omega, -List.map_map]
    rw [if_neg (by
      rintro ⟨x, _, hx⟩
      refine hx ?_
      unfold cv
      rw [if_neg (by omega), if_neg (by omega)])]
    exact Dr.p (.inl rfl)
  | false =>
    rw [hmy] at my
    simp -implicitDefEqProofs [st, e6, ix1, ix0, my, show ¬ cv mo left (totL rs % mo) s < 1 by omega, short_ok, lc, show mo ≤ 16777216 by omega, enumP_map, -List.map_map]
    have hnl : ¬ rs.length < P.length := fun h => by
      have := sm.mpr h
      rw [hmy] at this
      cases this
    have hle : rs.length = P.length := by omega
    have hz : ((((hsI mo).map (cv mo left (totL rs % mo))).zipIdx.filter fun a => !decide (a.1 = if (a.2 : Int) = s then 1 else 0))) = [] := by
      rw [List.filter_eq_nil_iff]
      intro a ha
      obtain ⟨h, h2⟩ := mem_zip ha
      rw [lc] at h
      have : a.1 = cv mo left (totL rs % mo) (a.2 : Nat) := by
        rw [← h2]
        unfold hsI
        simp
      rw [this]
      unfold cv
      rw [if_pos (by omega), ss hle, hs]
      simp
    rw [hz]
    exact Dr.p (.inl rfl)
theorem cut_take (xs : List PV) (j : Nat) : cutP xs none (some (j : Int)) = xs.take j := by
  unfold cutP
  have e0 : HT.sIx xs.length 0 none = 0 := rfl
  rw [e0, List.drop_zero, Nat.sub_zero]
  have e1 : HT.sIx xs.length xs.length (some (j : Int)) = min j xs.length := by
    unfold HT.sIx
    simp
    try omega
  rw [e1]
  by_cases h : j ≤ xs.length
  · rw [Nat.min_eq_left h]
  · rw [Nat.min_eq_right (by omega), List.take_of_length_le (Nat.le_refl _), List.take_of_length_le (by omega)]
theorem body_ok (ns : List Int) (k : Nat) : Dj (QL3_law0 (.scr ns) () [.int k]) fun c => c = .nx () ∨ c = .ct () := by
  unfold QL3_law0
  simp -implicitDefEqProofs
  refine Dj.box (box_ok ns k) fun b hb => Dj.st hb ?_
  refine Dr.b (Dr.town (k := 6) (by decide) (by decide)) ?_
  rintro _ ⟨m, ks, rfl, m1, m2, L, hk⟩
  have hk0 : 0 < ks.length := List.length_pos_iff.mpr L.ne
  simp -implicitDefEqProofs
  refine Dr.b (Dr.pickL (by simp) (by simp)) fun y hy => ?_
  have hy0 : ∃ j : Nat, y = .int (j : Int) ∧ 1 ≤ j ∧ j ≤ 6 := by
    simp at hy
    rcases hy with h | h | h | h | h
    · exact ⟨1, h, by decide, by decide⟩
    · exact ⟨2, h, by decide, by decide⟩
    · exact ⟨3, h, by decide, by decide⟩
    · exact ⟨4, h, by decide, by decide⟩
    · exact ⟨6, h, by decide, by decide⟩
  obtain ⟨j, rfl, j1, j2⟩ := hy0
  have hcut : sSlX (lotsP ks) none (some (j : Int)) = some (.v (lotsP (ks.take j))) := by
    show (sSl (.tup (ks.map tupI)) none (some (j : Int))).map RV.v = _
    show (some (PV.tup (cutP (ks.map tupI) none (some (j : Int))))).map RV.v = _
    rw [cut_take, ← List.map_take]
    rfl
  have hn : (ks.take j).length = min j ks.length := List.length_take
  generalize hks : ks.take j = ks' at *
  simp -implicitDefEqProofs [hcut]
  have L' : ∀ k ∈ ks', k ∈ ks := fun k hk => by rw [← hks] at hk; exact List.mem_of_mem_take hk
  obtain ⟨n, hn0⟩ : ∃ n, n = ks'.length := ⟨_, rfl⟩
  have n1 : 1 ≤ n := by omega
  have n2 : n ≤ 6 := by omega
  have pm : Dr (Q_law_pick (if ((ks'.length : Nat) : Int) < 3 then PV.lst [PV.int 2, PV.int 3, PV.int 5] else if ((ks'.length : Nat) : Int) < 5 then PV.lst [PV.int 2, PV.int 3] else PV.lst [PV.int 2])) fun x => ∃ mo : Nat, x = .int (mo : Int) ∧ 2 ≤ mo ∧ mo ≤ 5 := by
    split
    · refine (Dr.pickL (by simp) (by simp)).w fun x hx => ?_
      simp at hx
      rcases hx with h | h | h
      · exact ⟨2, h, by decide, by decide⟩
      · exact ⟨3, h, by decide, by decide⟩
      · exact ⟨5, h, by decide, by decide⟩
    · split
      · refine (Dr.pickL (by simp) (by simp)).w fun x hx => ?_
        simp at hx
        rcases hx with h | h
        · exact ⟨2, h, by decide, by decide⟩
        · exact ⟨3, h, by decide, by decide⟩
      · refine (Dr.pickL (by simp) (by simp)).w fun x hx => ?_
        simp at hx
        exact ⟨2, hx, by decide, by decide⟩
  refine Dr.b pm ?_
  rintro _ ⟨mo, rfl, h2, h5⟩
  refine Dr.b (Dr.take (by omega) (by omega)) ?_
  rintro _ ⟨s, rfl, s0, s1⟩
  refine Dr.b (Dr.row (by omega) (by omega) (by omega) (by omega)) ?_
  rintro _ ⟨ps, rfl, hp, hpb⟩
  have e2 := Q_deal_ok (lotsP ks') (m := mo) (s := s) (ps := ps) (by omega) (by omega)
  rw [e2]
  have hPl : (ps ++ [(s - ps.sum) % (mo : Int)]).length = n := by rw [List.length_append, List.length_singleton]; omega
  have hPb : ∀ p ∈ ps ++ [(s - ps.sum) % (mo : Int)], 0 ≤ p ∧ p < mo := fun p hp => by
    rcases List.mem_append.mp hp with hp | hp
    · exact hpb p hp
    · rcases List.mem_singleton.mp hp with rfl
      exact ⟨Int.emod_nonneg _ (by omega), Int.emod_lt_of_pos _ (by omega)⟩
  have hPs : (ps ++ [(s - ps.sum) % (mo : Int)]).sum % (mo : Int) = s := by
    rw [List.sum_append]
    simp
    rw [show ps.sum + (s - ps.sum) = s by omega]
    exact Int.emod_eq_of_lt s0 s1
  generalize ps ++ [(s - ps.sum) % (mo : Int)] = P at *
  have e3 := Q_secret_ok (m := mo) P (by omega)
  rw [hPs] at e3
  have e6 : Q_law_like (.int s) (.int s) = mP (.bl true) := Q_like_ok rfl (by simp [szP])
  obtain ⟨gs, g1, g2, g3⟩ := Q_all_lots (m := m) (by omega)
  simp -implicitDefEqProofs [isTy, isTyK, kdOf, short_ok, hPl, show n ≤ 16777216 by omega, sMod_i (show (0 : Int) < mo by omega), hPs, e3, e6, sLstRg_ok (show m ≤ 1000000 by omega), g1]
  rw [if_pos (show (n : Int) = (ks'.length : Int) by omega), if_neg (by
    rintro ⟨x, hx, h⟩
    have := hPb x hx
    have := h this.1
    omega)]
  simp -implicitDefEqProofs only [qS_nx]
  refine Dr.s (I := fun j : PV => ∃ ls : List (List Int), j = lotsL ls ∧ ls.length ≤ 1000000 ∧ ∀ k ∈ ls, k.length ≤ 1000) ?_ ?_
  · by_cases h32 : 32 < (gs.length : Int)
    · rw [if_pos h32]
      have hr : sRng1 [.int 20] = some ((hsI 20).map .int) := rfl
      rw [hr, mO_some, mB_pure, short_ok (by rw [List.length_map, hsI_len]; decide), mO_some, mB_pure, compQ_map]
      refine Dr.b (Dr.k (Dr.ca tupI (fun k : List Int => k.length ≤ 1000) (hsI 20) fun i _ => ?_)) ?_
      · refine Dr.b (Dr.pickL (by simp) (by simp)) fun y hy => ?_
        have hy0 : ∃ p : Int, y = .int p ∧ 0 < p ∧ p < 1000 := by
          simp at hy
          rcases hy with h | h | h <;> exact ⟨_, h, by decide, by decide⟩
        obtain ⟨p, rfl, p1, p2⟩ := hy0
        exact (Dr.drawnL p1 p2 (by rw [hsI_len]; omega)).w fun x ⟨k, e, hk⟩ => ⟨k, e, by have := hk.length_le; rw [hsI_len] at this; omega⟩
      · rintro _ ⟨ds, rfl, d1, d2⟩
        rw [hsI_len] at d1
        exact Dr.p ⟨_, rfl, ds, rfl, by omega, d2⟩
    · rw [if_neg h32]
      exact Dr.p ⟨_, rfl, gs, rfl, g2, g3⟩
  · rintro _ ⟨ls, rfl, l1, l2⟩
    have hpow : mo ^ n ≤ 100000 := by
      have a1 : mo ^ n ≤ 5 ^ n := Nat.pow_le_pow_left h5 n
      have a2 : 5 ^ n ≤ 5 ^ 6 := Nat.pow_le_pow_right (by decide) n2
      have a3 : (5 : Nat) ^ 6 = 15625 := by decide
      omega
    have ar := Q_all_rows (mo := mo) (n := ks'.length) (by omega) (by omega) (by omega) (by rw [← hn0]; exact hpow)
    simp -implicitDefEqProofs [ar, short_ok]
    refine Dr.s (Dr.fn fun lot hlot => ?_) fun _ _ => Dr.p (.inl rfl)
    rw [← hn0]
    exact lot_ok h2 (by omega) hn0.symm hPl (by omega) hpow (l2 lot hlot) hPb s0 s1 hPs
theorem law_holds (ns : List Int) : Q_law0 (.scr ns) () = some (.ok (.bl true), ()) := by
  unfold Q_law0
  refine law_of ?_
  unfold QB_law0
  simp -implicitDefEqProofs
  rw [sRng_ok (by split <;> split <;> omega) (by split <;> split <;> omega)]
  simp -implicitDefEqProofs
  refine Dj.s (Dj.fn fun i hi => ?_) fun _ _ => Dj.p rfl
  unfold hsI at hi
  obtain ⟨j, _, rfl⟩ := List.mem_map.mp hi
  exact body_ok ns j
end VP
namespace VP
open PySem L2 VL
theorem law_end (h : ∀ ns : List Int, Q_law0 (.scr ns) () = some (.ok (.bl true), ())) (ns : List Int) : ∃ outs, F_law0 [.val (.scr ns)] = .ok (.v (.bl true)) outs := by
  obtain ⟨rv, outs, h1, _, h2⟩ := fq_law0 [.scr ns] _ (h ns)
  have e : rv = .v (.bl true) := h2
  subst e
  exact ⟨outs, h1⟩
end VP
open PySem PySem.W PySem.Calls PyProof.Rows in
set_option maxHeartbeats 0 in
theorem PySem.Challenge.cw_nolieholds_k67_whole_what_lots_see_tells_holds : PySem.Challenge.rw_nolieholds_k67_whole_what_lots_see_tells.Holds := by
  w_on; o_law
  refine HandSHeadRun.head_any (r := OpenLaw.row PySem.Challenge.rw_nolieholds_k67_whole_what_lots_see_tells) (q := view (OpenLaw.row PySem.Challenge.rw_nolieholds_k67_whole_what_lots_see_tells).prog [22]) (H := VP.hk) (ob := VP.ob) (M := 4000) (loose := VP.loose) (d := HandSHeadRun.topDef (OpenLaw.row PySem.Challenge.rw_nolieholds_k67_whole_what_lots_see_tells).prog 22) (kwd := []) VP.ob_eq
    (by kernel_rfl) (fun s => by kernel_rfl) VP.run (by kernel_rfl) (by kernel_rfl) (by kernel_rfl) (by rfl) (by first | assumption | decide +kernel) (by decide +kernel) ⟨rfl, rfl, rfl, rfl, rfl, by decide +kernel⟩ ?hw ?hc
  case hw => w_witness2
  case hc =>
    refine VL.walk_end (l := PySem.Challenge.rw_nolieholds_k67_whole_what_lots_see_tells) (n := 63) (k := 5) (x := "script") (fn := VP.F_law0) rfl (by decide) (by kernel_rfl) ⟨rfl, by decide, by decide⟩ (fun ns _ => VP.law_end VP.law_holds ns) ?F
    intro w mg fa h Y G hmg0
    obtain ⟨K, KX, c⟩ := Y
    have hmg : mg ("law" : PySem.Str) = some (.ref fa) := by
      have e : (HandSHeadRun.topDef (OpenLaw.row PySem.Challenge.rw_nolieholds_k67_whole_what_lots_see_tells).prog 22).name = ("law" : PySem.Str) := by kernel_rfl
      rw [← e]
      exact hmg0
    have f := VP.facts KX G c
    have ea : f.a_law0 = fa := by
      have e := f.g_law0.symm.trans hmg
      cases e
      rfl
    subst ea
    exact ⟨K, f.d_law0, KX, fun s u => L2.FunD.bindsA (ps := ["script"]) f.F_law0 (fun _ _ _ _ _ _ us hl => match us, hl with | [_], _ => rfl) s [u] rfl, fun base _ _ => VP.ok_law0 f⟩

