import PyProof.Rows.All
import Wide.All
import OpenK.AllK
import Wide.FinOn
import HandS.ForMost
import HandS.ForExc
import HandS.ExcInit
import HandS.ExcField
import HandS.ExcIs
import HandS.IsInst
import HandS.Flow
import HandS.Wide
import HandS.Conv
import HandS.Evl
import HandS.TupAny
import HandS.ExcCtx
import HandS.HotCalls
import HandS.ExcInitHot
import HandS.SuiteRaise
import PySem.Challenge.RW_mirrorcounts_k00_shares
set_option Elab.async false
set_option linter.all false
set_option maxRecDepth 100000
set_option maxHeartbeats 4000000
/-! Dl: a logic of plain data over the hand layer. G: what never changes any more; H: all that is tracked. -/
namespace Dl
open PySem L2
open Evl (Ex)
/-- plain data -/
inductive D where
  | non | bl (b : Bool) | int (i : Int) | str (x : Str) | tup (ds : List D) | lst (ds : List D) | obj (C : Addr) (fs : List (Str × D)) | ptr (a : Addr) | err (a dd : Addr) (f : Str) (d : D) | dct (kvs : List (Key × D))
mutual
inductive Rep (K : PySem.W.Frag) (G : Hp) : V → D → Prop
  | non : Rep K G .non .non
  | bl (b : Bool) : Rep K G (.bl b) (.bl b)
  | int (i : Int) : Rep K G (.int i) (.int i)
  | str (x : Str) : Rep K G (.str x) (.str x)
  | tup {a : Addr} {xs : List V} {ds : List D} (h : SqT K G a xs) (hs : RepL K G xs ds) : Rep K G (.ref a) (.tup ds)
  | lst {a : Addr} {xs : List V} {ds : List D} (h : SqL K G a xs) (hs : RepL K G xs ds) : Rep K G (.ref a) (.lst ds)
  | obj {a C dx : Addr} {gs : List (Str × V)} {fs : List (Str × D)} (h : G a = some (.ins C dx gs)) (hs : RepF K G gs fs) : Rep K G (.ref a) (.obj C fs)
  | ptr (a : Addr) : Rep K G (.ref a) (.ptr a)
  | err {a dd : Addr} {f : Str} {v : V} {d : D} (h : G dd = some (.xd [(f, v)])) (hs : Rep K G v d) : Rep K G (.ref a) (.err a dd f d)
  | dct {a : Addr} {ws : List (Key × V)} {kvs : List (Key × D)} (h : G a = some (.dK ws)) (hs : RepK K G ws kvs) : Rep K G (.ref a) (.dct kvs)
inductive RepL (K : PySem.W.Frag) (G : Hp) : List V → List D → Prop
  | nil : RepL K G [] []
  | cons {v : V} {d : D} {vs : List V} {ds : List D} (h : Rep K G v d) (hs : RepL K G vs ds) : RepL K G (v :: vs) (d :: ds)
inductive RepF (K : PySem.W.Frag) (G : Hp) : List (Str × V) → List (Str × D) → Prop
  | nil : RepF K G [] []
  | cons {f : Str} {v : V} {d : D} {vs : List (Str × V)} {ds : List (Str × D)} (h : Rep K G v d) (hs : RepF K G vs ds) : RepF K G ((f, v) :: vs) ((f, d) :: ds)
inductive RepK (K : PySem.W.Frag) (G : Hp) : List (Key × V) → List (Key × D) → Prop
  | nil : RepK K G [] []
  | cons {f : Key} {v : V} {d : D} {vs : List (Key × V)} {ds : List (Key × D)} (h : Rep K G v d) (hs : RepK K G vs ds) : RepK K G ((f, v) :: vs) ((f, d) :: ds)
end
section
variable {K : PySem.W.Frag} {G G' : Hp}
mutual
theorem Rep.mono (e : Ex G G') : ∀ {v : V} {d : D}, Rep K G v d → Rep K G' v d
  | _, _, .non => .non
  | _, _, .bl b => .bl b
  | _, _, .int i => .int i
  | _, _, .str x => .str x
  | _, _, .tup h hs => .tup (Evl.ex_t e h) (RepL.mono e hs)
  | _, _, .lst h hs => .lst (Evl.ex_l e h) (RepL.mono e hs)
  | _, _, .obj h hs => .obj (e _ _ h) (RepF.mono e hs)
  | _, _, .ptr a => .ptr a
  | _, _, .err h hs => .err (e _ _ h) (Rep.mono e hs)
  | _, _, .dct h hs => .dct (e _ _ h) (RepK.mono e hs)
theorem RepL.mono (e : Ex G G') : ∀ {vs : List V} {ds : List D}, RepL K G vs ds → RepL K G' vs ds
  | _, _, .nil => .nil
  | _, _, .cons h hs => .cons (Rep.mono e h) (RepL.mono e hs)
theorem RepF.mono (e : Ex G G') : ∀ {vs : List (Str × V)} {ds : List (Str × D)}, RepF K G vs ds → RepF K G' vs ds
  | _, _, .nil => .nil
  | _, _, .cons h hs => .cons (Rep.mono e h) (RepF.mono e hs)
theorem RepK.mono (e : Ex G G') : ∀ {vs : List (Key × V)} {ds : List (Key × D)}, RepK K G vs ds → RepK K G' vs ds
  | _, _, .nil => .nil
  | _, _, .cons h hs => .cons (Rep.mono e h) (RepK.mono e hs)
end
theorem RepL.length : ∀ {vs : List V} {ds : List D}, RepL K G vs ds → vs.length = ds.length
  | _, _, .nil => rfl
  | _, _, .cons _ hs => congrArg (· + 1) (RepL.length hs)
theorem RepL.get : ∀ {vs : List V} {ds : List D} {i : Nat} {v : V}, RepL K G vs ds → vs[i]? = some v → ∃ d, ds[i]? = some d ∧ Rep K G v d
  | _, _, i, v, .nil, e => by simp at e
  | _, _, 0, v, .cons h _, e => by
    simp at e
    subst e
    exact ⟨_, rfl, h⟩
  | _, _, i + 1, v, .cons _ hs, e => by
    obtain ⟨d, h1, h2⟩ := RepL.get (i := i) (v := v) hs (by simpa using e)
    exact ⟨d, by simpa using h1, h2⟩
theorem RepL.getD : ∀ {vs : List V} {ds : List D} {i : Nat} {d : D}, RepL K G vs ds → ds[i]? = some d → ∃ v, vs[i]? = some v ∧ Rep K G v d
  | _, _, i, d, .nil, e => by simp at e
  | _, _, 0, d, .cons h _, e => by
    simp at e
    subst e
    exact ⟨_, rfl, h⟩
  | _, _, i + 1, d, .cons _ hs, e => by
    obtain ⟨v, h1, h2⟩ := RepL.getD (i := i) (d := d) hs (by simpa using e)
    exact ⟨v, by simpa using h1, h2⟩
theorem RepL.append : ∀ {vs ws : List V} {ds es : List D}, RepL K G vs ds → RepL K G ws es → RepL K G (vs ++ ws) (ds ++ es)
  | _, _, _, _, .nil, s => s
  | _, _, _, _, .cons h hs, s => .cons h (RepL.append hs s)
theorem RepL.set {v : V} {d : D} (r : Rep K G v d) : ∀ {vs : List V} {ds : List D} (i : Nat), RepL K G vs ds → RepL K G (vs.set i v) (ds.set i d)
  | _, _, _, .nil => .nil
  | _, _, 0, .cons _ hs => .cons r hs
  | _, _, i + 1, .cons h hs => .cons h (RepL.set r i hs)
theorem RepL.ints : ∀ {vs : List V} {ns : List Int}, RepL K G vs (ns.map D.int) → vs = ns.map V.int
  | _, [], .nil => rfl
  | _, n :: ns, .cons h hs => by
    cases h
    rw [RepL.ints hs, List.map_cons]
theorem RepL.ofInts : ∀ (ns : List Int), RepL K G (ns.map V.int) (ns.map D.int)
  | [] => .nil
  | n :: ns => .cons (.int n) (RepL.ofInts ns)
theorem RepL.bls : ∀ {vs : List V} {ns : List Bool}, RepL K G vs (ns.map D.bl) → vs = ns.map V.bl
  | _, [], .nil => rfl
  | _, n :: ns, .cons h hs => by
    cases h
    rw [RepL.bls hs, List.map_cons]
theorem look_put {α : Type} (f g : Str) (y : α) (fs : List (Str × α)) : ((f, y) :: fs).lookup g = if g = f then some y else fs.lookup g := by
  by_cases h : g = f
  · subst h
    simp [List.lookup]
  · have e : (g == f) = false := by simpa using h
    rw [if_neg h]
    simp [List.lookup, e]
theorem RepF.look : ∀ {vs : List (Str × V)} {ds : List (Str × D)} {f : Str} {d : D}, RepF K G vs ds → ds.lookup f = some d → ∃ v, vs.lookup f = some v ∧ Rep K G v d
  | _, _, f, d, .nil, e => by cases e
  | _, _, f, d, .cons (f := g) (v := v) (vs := vs) h hs, e => by
    rw [look_put] at e
    rw [look_put]
    by_cases hf : f = g
    · rw [if_pos hf] at e ⊢
      cases e
      exact ⟨v, rfl, h⟩
    · rw [if_neg hf] at e ⊢
      exact RepF.look hs e
end
/-- what is in an object that a slot alone holds -/
inductive Ct where
  | lst (ds : List D) | obj (C : Addr) (fs : List (Str × D)) | dct (kvs : List (Key × D))
inductive RepC (K : PySem.W.Frag) (G : Hp) : HO → Ct → Prop
  | lst {xs : List V} {ds : List D} (h : RepL K G xs ds) : RepC K G (.lst xs) (.lst ds)
  | obj {C dx : Addr} {gs : List (Str × V)} {fs : List (Str × D)} (h : RepF K G gs fs) : RepC K G (.ins C dx gs) (.obj C fs)
  | dct {ws : List (Key × V)} {kvs : List (Key × D)} (h : RepK K G ws kvs) : RepC K G (.dK ws) (.dct kvs)
theorem RepC.mono {K : PySem.W.Frag} {G G' : Hp} (e : Ex G G') {o : HO} {c : Ct} : RepC K G o c → RepC K G' o c
  | .lst h => .lst (h.mono e)
  | .obj h => .obj (h.mono e)
  | .dct h => .dct (h.mono e)
/-- frozen -/
@[reducible] def Ct.d : Ct → D
  | .lst ds => .lst ds
  | .obj C fs => .obj C fs
  | .dct kvs => .dct kvs
theorem RepC.rep {K : PySem.W.Frag} {G : Hp} {o : HO} {c : Ct} {a : Addr} (h : RepC K G o c) (e : G a = some o) : Rep K G (.ref a) c.d := by
  cases h with
  | lst h => exact .lst (SqL.of e) h
  | obj h => exact .obj e h
  | dct h => exact .dct e h
/-- what a slot holds: data that never changes; an object that the slot alone holds -/
inductive B where
  | fz (d : D) | ow (c : Ct)
abbrev Env := List (Option B)
/-- what a law draws from: where it stands, what it is made of, what holds of it -/
structure Rsc where
  w : Addr
  F : Addr → Prop
  I : Hp → Prop
  st : ∀ H H', I H → (∀ a, F a → H' a = H a) → I H'
  dom : ∀ H a, I H → F a → H a ≠ none
def Rsc.no : Rsc := ⟨0, fun _ => False, fun _ => True, fun _ _ _ _ => trivial, fun _ _ _ h => h.elim⟩
/-- the entry of a def: what never changes, what is tracked, what may change (the resource), the wish of exceptions -/
structure Ctx where
  K : PySem.W.Frag
  G : Hp
  H : Hp
  R : Rsc
  /-- cells that stand as they are -/
  X : List (Addr × HO)
def own (σ : St) (ρ : Env) (i : Nat) (a : Addr) : Prop := σ[i]? = some (some (.ref a)) ∧ ∃ ds, ρ[i]? = some (some (.ow ds))
def BV (Γ : Ctx) (G H : Hp) (v : V) : B → Prop
  | .fz d => Rep Γ.K G v d
  | .ow ds => ∃ a xs, v = .ref a ∧ H a = some xs ∧ RepC Γ.K G xs ds ∧ G a = none ∧ ¬ Γ.R.F a ∧ Γ.H a = none
structure Ok (Γ : Ctx) (G H : Hp) (σ : St) (ρ : Env) : Prop where
  gh : Ex G H
  g0 : Ex Γ.G G
  nw : ∀ a, Γ.G a = none → Γ.H a ≠ none → G a = none
  fr : ∀ a o, ¬ Γ.R.F a → Γ.H a = some o → H a = some o
  dm : ∀ a, Γ.H a ≠ none → H a ≠ none
  res : Γ.R.I H
  rg : ∀ a, Γ.R.F a → G a = none
  len : σ.length = ρ.length
  var : ∀ (i : Nat) (b : B), ρ[i]? = some (some b) → ∃ v, σ[i]? = some (some v) ∧ BV Γ G H v b
  dj : ∀ (i j : Nat) (a : Addr), own σ ρ i a → own σ ρ j a → i = j
  cel : ∀ p ∈ Γ.X, H p.1 = some p.2 ∧ G p.1 = none ∧ ¬ Γ.R.F p.1
  nx : ∀ (i : Nat) (a : Addr), own σ ρ i a → ∀ p ∈ Γ.X, p.1 ≠ a
/-- a result that is held by no slot -/
def BR (Γ : Ctx) (G H : Hp) (σ : St) (ρ : Env) (v : V) (b : B) : Prop := BV Γ G H v b ∧ ∀ ds, b = .ow ds → ∀ a, v = .ref a → (∀ i, ¬ own σ ρ i a) ∧ ∀ p ∈ Γ.X, p.1 ≠ a
section
variable {Γ : Ctx} {G G' H H' : Hp} {σ : St} {ρ : Env}
theorem own_in {i : Nat} {a : Addr} (k : Ok Γ G H σ ρ) (h : own σ ρ i a) : ∃ xs, H a = some xs ∧ G a = none ∧ ¬ Γ.R.F a ∧ Γ.H a = none := by
  obtain ⟨h1, ds, h2⟩ := h
  obtain ⟨v, h3, a', xs, rfl, h4, _, h5, h6, h7⟩ := k.var i _ h2
  rw [h1] at h3
  cases h3
  exact ⟨xs, h4, h5, h6, h7⟩
theorem BV.mono {v : V} {b : B} (h : BV Γ G H v b) (e : Ex G G') (hg : ∀ a, H a ≠ none → G a = none → G' a = none) (hh : ∀ a xs, H a = some xs → ¬ Γ.R.F a → G a = none → Γ.H a = none → H' a = some xs) : BV Γ G' H' v b := by
  cases b with
  | fz d => exact Rep.mono e h
  | ow ds =>
    obtain ⟨a, xs, rfl, h1, h2, h3, h4, h5⟩ := h
    exact ⟨a, xs, rfl, hh a xs h1 h4 h3 h5, RepC.mono e h2, hg a (by rw [h1]; simp) h3, h4, h5⟩
/-- G and H grow; the slots' own lists stand -/
theorem Ok.grow (k : Ok Γ G H σ ρ) (gg : Ex G G') (gh : Ex G' H') (nw : ∀ a, G a = none → H a ≠ none → G' a = none) (fr : ∀ a o, ¬ Γ.R.F a → H a = some o → H' a = some o) (dm : ∀ a, H a ≠ none → H' a ≠ none) (res : Γ.R.I H') (rg : ∀ a, Γ.R.F a → G' a = none) : Ok Γ G' H' σ ρ where
  gh := gh
  g0 := k.g0.trans gg
  nw := fun a h1 h2 => nw a (k.nw a h1 h2) (k.dm a h2)
  fr := fun a o h1 h2 => fr a o h1 (k.fr a o h1 h2)
  dm := fun a h => dm a (k.dm a h)
  res := res
  rg := rg
  len := k.len
  var := fun i b h => by
    obtain ⟨v, h1, h2⟩ := k.var i b h
    exact ⟨v, h1, h2.mono gg (fun a h3 h4 => nw a h4 h3) fun a xs h3 h4 _ _ => fr a _ h4 h3⟩
  dj := k.dj
  cel := fun p hp => by
    obtain ⟨h1, h2, h3⟩ := k.cel p hp
    exact ⟨fr _ _ h3 h1, nw _ h2 (by rw [h1]; simp), h3⟩
  nx := k.nx
/-- a new object, frozen -/
theorem Ok.new (k : Ok Γ G H σ ρ) {p : Addr} {o : HO} (hp : H p = none) : Ok Γ (upd G p o) (upd H p o) σ ρ ∧ Ex G (upd G p o) := by
  have hG : G p = none := Evl.fresh_back k.gh hp
  have hF : ∀ a, Γ.R.F a → a ≠ p := fun a h e => k.rg a h |> fun _ => (Γ.R.dom H a k.res h) (by rw [e]; exact hp)
  have gg := Ex.new (o := o) hG
  refine ⟨k.grow gg (fun a u h => ?_) (fun a h1 h2 => ?_) (fun a u _ h => ?_) (fun a h => ?_) (Γ.R.st H _ k.res fun a h => upd_ne (hF a h)) fun a h => by rw [upd_ne (hF a h)]; exact k.rg a h, gg⟩
  · by_cases e : a = p
    · subst e
      rw [upd_same] at h ⊢
      exact h
    · rw [upd_ne e] at h ⊢
      exact k.gh a u h
  · rw [upd_ne (fun e => h2 (by rw [e]; exact hp))]
    exact h1
  · rw [upd_ne (ne_of_none h hp)]
    exact h
  · by_cases e : a = p
    · rw [e, upd_same]
      simp
    · rw [upd_ne e]
      exact h
/-- a new object that is not frozen -/
theorem Ok.newO (k : Ok Γ G H σ ρ) {p : Addr} {o : HO} (hp : H p = none) : Ok Γ G (upd H p o) σ ρ := by
  have hF : ∀ a, Γ.R.F a → a ≠ p := fun a h e => (Γ.R.dom H a k.res h) (by rw [e]; exact hp)
  refine k.grow (Ex.refl G) (fun a u h => ?_) (fun a h1 _ => h1) (fun a u _ h => ?_) (fun a h => ?_) (Γ.R.st H _ k.res fun a h => upd_ne (hF a h)) k.rg
  · rw [upd_ne (ne_of_none (k.gh a u h) hp)]
    exact k.gh a u h
  · rw [upd_ne (ne_of_none h hp)]
    exact h
  · by_cases e : a = p
    · rw [e, upd_same]
      simp
    · rw [upd_ne e]
      exact h
/-- a slot's own list is changed -/
theorem Ok.mut (k : Ok Γ G H σ ρ) {i : Nat} {a : Addr} {ds ds' : Ct} {xs' : HO} (hi : ρ[i]? = some (some (.ow ds))) (ha : σ[i]? = some (some (.ref a))) (hr : RepC Γ.K G xs' ds') : Ok Γ G (upd H a xs') σ (ρ.set i (some (.ow ds'))) := by
  have ho : own σ ρ i a := ⟨ha, ds, hi⟩
  obtain ⟨xs, e1, e2, e3, e4⟩ := own_in k ho
  have nG : ∀ b o, G b = some o → b ≠ a := fun b o h e => by rw [e, e2] at h; cases h
  have hlt : i < ρ.length := (List.getElem?_eq_some_iff.mp hi).1
  have back : ∀ j c, own σ (ρ.set i (some (.ow ds'))) j c → own σ ρ j c := fun j c ⟨p, es, q⟩ => by
    by_cases hj : j = i
    · subst hj
      exact ⟨p, ds, hi⟩
    · rw [List.getElem?_set_ne (Ne.symm hj)] at q
      exact ⟨p, es, q⟩
  refine ⟨fun b o h => by rw [upd_ne (nG b o h)]; exact k.gh b o h, k.g0, k.nw, fun b o h1 h2 => ?_, fun b h => ?_, Γ.R.st H _ k.res fun b h => upd_ne fun e => e3 (e ▸ h), k.rg, by rw [List.length_set]; exact k.len, fun j b h => ?_, fun j l c h1 h2 => k.dj j l c (back j c h1) (back l c h2), fun p hp => ?_, fun j c h => k.nx j c (back j c h)⟩
  · rw [upd_ne fun e => by rw [e, e4] at h2; cases h2]
    exact k.fr b o h1 h2
  · by_cases e : b = a
    · rw [e, upd_same]
      simp
    · rw [upd_ne e]
      exact k.dm b h
  · by_cases hj : j = i
    · subst hj
      rw [List.getElem?_set_self hlt] at h
      cases h
      exact ⟨_, ha, a, xs', rfl, upd_same, hr, e2, e3, e4⟩
    · rw [List.getElem?_set_ne (Ne.symm hj)] at h
      obtain ⟨v, h1, h2⟩ := k.var j b h
      refine ⟨v, h1, ?_⟩
      cases b with
      | fz d => exact h2
      | ow es =>
        obtain ⟨c, ys, rfl, g1, g2, g3, g4, g5⟩ := h2
        have hc : c ≠ a := fun e => hj (k.dj j i a ⟨by rw [h1, e], es, h⟩ ho)
        exact ⟨c, ys, rfl, by rw [upd_ne hc]; exact g1, g2, g3, g4, g5⟩
  · obtain ⟨h1, h2, h3⟩ := k.cel p hp
    exact ⟨by rw [upd_ne (k.nx i a ho p hp)]; exact h1, h2, h3⟩
/-- a slot is stored -/
theorem Ok.store (k : Ok Γ G H σ ρ) {i : Nat} {v : V} {b : B} (hb : BR Γ G H σ ρ v b) : Ok Γ G H (σ.set i (some v)) (ρ.set i (some b)) := by
  refine ⟨k.gh, k.g0, k.nw, k.fr, k.dm, k.res, k.rg, by rw [List.length_set, List.length_set]; exact k.len, fun j c h => ?_, fun j l c h1 h2 => ?_, k.cel, fun j c h => ?_⟩
  · by_cases hj : j = i
    · subst hj
      have hlt : j < ρ.length := by
        have := (List.getElem?_eq_some_iff.mp h).1
        rwa [List.length_set] at this
      rw [List.getElem?_set_self hlt] at h
      cases h
      exact ⟨v, List.getElem?_set_self (by rw [k.len]; exact hlt), hb.1⟩
    · rw [List.getElem?_set_ne (Ne.symm hj)] at h ⊢
      exact k.var j c h
  · have get : ∀ j c, own (σ.set i (some v)) (ρ.set i (some b)) j c → (j = i ∧ v = .ref c ∧ ∃ ds, b = .ow ds) ∨ (j ≠ i ∧ own σ ρ j c) := fun j c ⟨p, es, q⟩ => by
      by_cases hj : j = i
      · subst hj
        have hlt : j < ρ.length := by
          have := (List.getElem?_eq_some_iff.mp q).1
          rwa [List.length_set] at this
        rw [List.getElem?_set_self hlt] at q
        rw [List.getElem?_set_self (by rw [k.len]; exact hlt)] at p
        cases q
        cases p
        exact .inl ⟨rfl, rfl, es, rfl⟩
      · rw [List.getElem?_set_ne (Ne.symm hj)] at p q
        exact .inr ⟨hj, p, es, q⟩
    rcases get j c h1 with ⟨rfl, hv, ds, hd⟩ | ⟨n1, o1⟩
    · rcases get l c h2 with ⟨rfl, _, _⟩ | ⟨n2, o2⟩
      · rfl
      · exact absurd o2 ((hb.2 ds hd c hv).1 l)
    · rcases get l c h2 with ⟨rfl, hv, ds, hd⟩ | ⟨n2, o2⟩
      · exact absurd o1 ((hb.2 ds hd c hv).1 j)
      · exact k.dj j l c o1 o2
  · obtain ⟨p, es, q⟩ := h
    by_cases hj : j = i
    · subst hj
      have hlt : j < ρ.length := by
        have := (List.getElem?_eq_some_iff.mp q).1
        rwa [List.length_set] at this
      rw [List.getElem?_set_self hlt] at q
      rw [List.getElem?_set_self (by rw [k.len]; exact hlt)] at p
      cases q
      cases p
      exact (hb.2 es rfl c rfl).2
    · rw [List.getElem?_set_ne (Ne.symm hj)] at p q
      exact k.nx j c ⟨p, es, q⟩
theorem BR.fz {v : V} {d : D} (h : Rep Γ.K G v d) : BR Γ G H σ ρ v (.fz d) := ⟨h, fun _ e => by cases e⟩
/-- slots are forgotten -/
theorem Ok.weak (k : Ok Γ G H σ ρ) {ρ' : Env} (hl : ρ'.length = ρ.length) (hs : ∀ (i : Nat) (b : B), ρ'[i]? = some (some b) → ρ[i]? = some (some b)) : Ok Γ G H σ ρ' :=
  ⟨k.gh, k.g0, k.nw, k.fr, k.dm, k.res, k.rg, k.len.trans hl.symm, fun i b h => k.var i b (hs i b h), fun i j a ⟨p, ds, q⟩ ⟨p', es, q'⟩ => k.dj i j a ⟨p, ds, hs _ _ q⟩ ⟨p', es, hs _ _ q'⟩, k.cel, fun i a ⟨p, ds, q⟩ => k.nx i a ⟨p, ds, hs _ _ q⟩⟩
/-- a slot's own list is frozen -/
theorem Ok.freeze (k : Ok Γ G H σ ρ) {i : Nat} {a : Addr} {ds : Ct} (hi : ρ[i]? = some (some (.ow ds))) (ha : σ[i]? = some (some (.ref a))) : ∃ G', Ex G G' ∧ Ok Γ G' H σ (ρ.set i (some (.fz ds.d))) ∧ Rep Γ.K G' (.ref a) ds.d := by
  obtain ⟨v, h1, a', xs, rfl, g1, g2, g3, g4, g5⟩ := k.var i _ hi
  rw [ha] at h1
  cases h1
  have gg : Ex G (upd G a xs) := Ex.new g3
  have hlt : i < ρ.length := (List.getElem?_eq_some_iff.mp hi).1
  have rp : Rep Γ.K (upd G a xs) (.ref a) ds.d := (RepC.mono gg g2).rep upd_same
  have back : ∀ j c, own σ (ρ.set i (some (.fz ds.d))) j c → own σ ρ j c := fun j c ⟨p, es, q⟩ => by
    by_cases hj : j = i
    · subst hj
      rw [List.getElem?_set_self hlt] at q
      cases q
    · rw [List.getElem?_set_ne (Ne.symm hj)] at q
      exact ⟨p, es, q⟩
  refine ⟨_, gg, ⟨fun b o h => ?_, k.g0.trans gg, fun b h1 h2 => ?_, k.fr, k.dm, k.res, fun b h => by rw [upd_ne fun e => g4 (by rw [← e]; exact h)]; exact k.rg b h, by rw [List.length_set]; exact k.len, fun j b h => ?_, fun j l c h1 h2 => k.dj j l c (back j c h1) (back l c h2), fun p hp => ?_, fun j c h => k.nx j c (back j c h)⟩, rp⟩
  · by_cases e : b = a
    · subst e
      rw [upd_same] at h
      cases h
      exact g1
    · rw [upd_ne e] at h
      exact k.gh b o h
  · rw [upd_ne fun e => h2 (by rw [e]; exact g5)]
    exact k.nw b h1 h2
  · by_cases hj : j = i
    · subst hj
      rw [List.getElem?_set_self hlt] at h
      cases h
      exact ⟨_, ha, rp⟩
    · rw [List.getElem?_set_ne (Ne.symm hj)] at h
      obtain ⟨v, h1, h2⟩ := k.var j b h
      refine ⟨v, h1, ?_⟩
      cases b with
      | fz d => exact Rep.mono gg h2
      | ow es =>
        obtain ⟨c, ys, rfl, q1, q2, q3, q4, q5⟩ := h2
        have hc : c ≠ a := fun e => hj (k.dj j i a ⟨by rw [h1, e], es, h⟩ ⟨ha, ds, hi⟩)
        exact ⟨c, ys, rfl, q1, RepC.mono gg q2, by rw [upd_ne hc]; exact q3, q4, q5⟩
  · obtain ⟨h1, h2, h3⟩ := k.cel p hp
    exact ⟨h1, by rw [upd_ne (k.nx i a ⟨ha, ds, hi⟩ p hp)]; exact h2, h3⟩
end

/-! ### the judgements -/
/-- an expression: a frozen result; any result; a test; arguments -/
def EW (Γ : Ctx) (te : TE) (ρ : Env) (Φ : D → Env → Prop) : Prop := ∀ σ G H (Q : VK), Ok Γ G H σ ρ → (∀ d ρ' v G' H', Ex G G' → Ok Γ G' H' σ ρ' → Rep Γ.K G' v d → Φ d ρ' → Q v H') → te σ H Q
def EB (Γ : Ctx) (te : TE) (ρ : Env) (Φ : B → Env → Prop) : Prop := ∀ σ G H (Q : VK), Ok Γ G H σ ρ → (∀ b ρ' v G' H', Ex G G' → Ok Γ G' H' σ ρ' → BR Γ G' H' σ ρ' v b → Φ b ρ' → Q v H') → te σ H Q
def TW (Γ : Ctx) (tt : TT) (ρ : Env) (Φ : Bool → Env → Prop) : Prop := ∀ σ G H (Q : Bool → Hp → Prop), Ok Γ G H σ ρ → (∀ b ρ' G' H', Ex G G' → Ok Γ G' H' σ ρ' → Φ b ρ' → Q b H') → tt σ H Q
def AW (Γ : Ctx) (ta : TA) (ρ : Env) (Φ : List D → Env → Prop) : Prop := ∀ σ G H (Q : List V → Hp → Prop), Ok Γ G H σ ρ → (∀ ds ρ' vs G' H', Ex G G' → Ok Γ G' H' σ ρ' → RepL Γ.K G' vs ds → Φ ds ρ' → Q vs H') → ta σ H Q
/-- where statements end -/
structure Fin where
  nx : Env → Prop
  rt : B → Prop
  bk : Env → Prop
  ct : Env → Prop
  xr : Env → Addr → Str → D → Prop
def SW (Γ : Ctx) (ts : TS) (ρ : Env) (Δ : Fin) : Prop := ∀ σ G H (D : Ends), Ok Γ G H σ ρ →
  (∀ ρ' σ' G' H', Ex G G' → Ok Γ G' H' σ' ρ' → Δ.nx ρ' → D.nx σ' H') → (∀ b v σ' ρ' G' H', Ok Γ G' H' σ' ρ' → BR Γ G' H' σ' ρ' v b → Δ.rt b → D.rt v H') →
  (∀ ρ' σ' G' H', Ex G G' → Ok Γ G' H' σ' ρ' → Δ.bk ρ' → D.bk σ' H') → (∀ ρ' σ' G' H', Ex G G' → Ok Γ G' H' σ' ρ' → Δ.ct ρ' → D.ct σ' H') → ts D σ H

section
variable {Γ : Ctx} {ρ : Env} {te ta tb tc : TE} {tt tu : TT} {Φ : D → Env → Prop} {Ψ : B → Env → Prop} {Θ : Bool → Env → Prop} {Λ : List D → Env → Prop}
theorem EW.eb (h : EW Γ te ρ fun d ρ' => Ψ (.fz d) ρ') : EB Γ te ρ Ψ := fun σ G H Q k q => h σ G H Q k fun d ρ' v G' H' e k' r p => q (.fz d) ρ' v G' H' e k' (.fz r) p
theorem ew_imp {Φ' : D → Env → Prop} (h : EW Γ te ρ Φ') (i : ∀ d ρ', Φ' d ρ' → Φ d ρ') : EW Γ te ρ Φ := fun σ G H Q k q => h σ G H Q k fun d ρ' v G' H' e k' r p => q d ρ' v G' H' e k' r (i d ρ' p)
theorem ew_var {i : Nat} {d : D} (h : ρ[i]? = some (some (.fz d))) (p : Φ d ρ) : EW Γ (tVar i) ρ Φ := fun σ G H Q k q => by
  obtain ⟨v, h1, h2⟩ := k.var i _ h
  exact ⟨v, h1, q d ρ v G H (Ex.refl G) k h2 p⟩
def ofV : V → D
  | .non => .non
  | .bl b => .bl b
  | .int i => .int i
  | .str x => .str x
  | _ => .non
def sc : V → Bool
  | .non => true
  | .bl _ => true
  | .int _ => true
  | .str _ => true
  | _ => false
theorem rep_ofV {K : PySem.W.Frag} {G : Hp} {v : V} (h : sc v = true) : Rep K G v (ofV v) := by
  cases v with
  | non => exact .non
  | bl b => exact .bl b
  | int i => exact .int i
  | str x => exact .str x
  | _ => exact absurd (show false = true from h) Bool.false_ne_true
theorem ew_int {i : Int} (p : Φ (.int i) ρ) : EW Γ (tC (.int i)) ρ Φ := fun σ G H Q k q => q _ ρ _ G H (Ex.refl G) k (.int i) p
theorem ew_bl {b : Bool} (p : Φ (.bl b) ρ) : EW Γ (tC (.bl b)) ρ Φ := fun σ G H Q k q => q _ ρ _ G H (Ex.refl G) k (.bl b) p
theorem ew_non (p : Φ .non ρ) : EW Γ (tC .non) ρ Φ := fun σ G H Q k q => q _ ρ _ G H (Ex.refl G) k .non p
theorem ew_str {x : Str} (p : Φ (.str x) ρ) : EW Γ (tC (.str x)) ρ Φ := fun σ G H Q k q => q _ ρ _ G H (Ex.refl G) k (.str x) p
/-- a constant of the module -/
theorem ew_ref {a : Addr} {xs : List V} {ds : List D} (h : ∀ H, SqT Γ.K H a xs) (hs : ∀ G, RepL Γ.K G xs ds) (p : Φ (.tup ds) ρ) : EW Γ (tC (.ref a)) ρ Φ := fun σ G H Q k q => q _ ρ _ G H (Ex.refl G) k (.tup (h G) (hs G)) p
/-- an operation on values that makes nothing -/
def OpV (Γ : Ctx) (r : R2) (x y z : D) : Prop := ∀ G H vx vy (Q : VK), Ex G H → Rep Γ.K G vx x → Rep Γ.K G vy y → (∀ v, Rep Γ.K G v z → Q v H) → r vx vy H Q
theorem ew_op {r : R2} (h : EW Γ ta ρ fun x ρ1 => EW Γ tb ρ1 fun y ρ2 => ∃ z, OpV Γ r x y z ∧ Φ z ρ2) : EW Γ (tOp r ta tb) ρ Φ := fun σ G H Q k q =>
  h σ G H _ k fun x ρ1 vx G1 H1 e1 k1 r1 h1 => h1 σ G1 H1 _ k1 fun y ρ2 vy G2 H2 e2 k2 r2 ⟨z, h2, p⟩ =>
    h2 G2 H2 vx vy Q k2.gh (r1.mono e2) r2 fun v rv => q z ρ2 v G2 H2 (e1.trans e2) k2 rv p
theorem opv_int {g : Int → Int → Int} {i j : Int} : OpV Γ (rI0 fun i j => .int (g i j)) (.int i) (.int j) (.int (g i j)) := fun G H vx vy Q e hx hy q => by
  cases hx
  cases hy
  exact ⟨i, j, rfl, rfl, q _ (.int _)⟩
theorem opv_intC {C : Int → Int → Prop} {g : Int → Int → Int} {i j : Int} (c : C i j) : OpV Γ (rI C fun i j => .int (g i j)) (.int i) (.int j) (.int (g i j)) := fun G H vx vy Q e hx hy q => by
  cases hx
  cases hy
  exact ⟨i, j, rfl, rfl, c, q _ (.int _)⟩
theorem opv_cmp {g : Int → Int → Bool} {i j : Int} : OpV Γ (rI0 fun i j => .bl (g i j)) (.int i) (.int j) (.bl (g i j)) := fun G H vx vy Q e hx hy q => by
  cases hx
  cases hy
  exact ⟨i, j, rfl, rfl, q _ (.bl _)⟩
theorem dec_int {i j : Int} : decide (V.int i = V.int j) = decide (i = j) := by
  by_cases h : i = j
  · subst h; simp
  · simp [h]
theorem dec_bl {i j : Bool} : decide (V.bl i = V.bl j) = decide (i = j) := by
  by_cases h : i = j
  · subst h; simp
  · simp [h]
theorem dec_str {i j : Str} : decide (V.str i = V.str j) = decide (i = j) := by
  by_cases h : i = j
  · subst h; simp
  · simp [h]
theorem opv_eq {i j : Int} : OpV Γ rEq (.int i) (.int j) (.bl (decide (i = j))) := fun G H vx vy Q e hx hy q => by
  cases hx
  cases hy
  refine ⟨rfl, ?_⟩
  rw [dec_int]
  exact q _ (.bl _)
theorem opv_ne {i j : Int} : OpV Γ rNe (.int i) (.int j) (.bl (!decide (i = j))) := fun G H vx vy Q e hx hy q => by
  cases hx
  cases hy
  refine ⟨rfl, ?_⟩
  rw [dec_int]
  exact q _ (.bl _)
theorem opv_eqB {i j : Bool} : OpV Γ rEq (.bl i) (.bl j) (.bl (decide (i = j))) := fun G H vx vy Q e hx hy q => by
  cases hx
  cases hy
  refine ⟨rfl, ?_⟩
  rw [dec_bl]
  exact q _ (.bl _)
theorem opv_eqS {i j : Str} : OpV Γ rEq (.str i) (.str j) (.bl (decide (i = j))) := fun G H vx vy Q e hx hy q => by
  cases hx
  cases hy
  refine ⟨rfl, ?_⟩
  rw [dec_str]
  exact q _ (.bl _)
theorem ew_neg {f : Int → Int} (h : EW Γ ta ρ fun x ρ1 => ∃ i, x = .int i ∧ Φ (.int (f i)) ρ1) : EW Γ (tUn (rU fun i => .int (f i)) ta) ρ Φ := fun σ G H Q k q =>
  h σ G H _ k fun x ρ1 vx G1 H1 e1 k1 r1 ⟨i, hi, p⟩ => by
    subst hi
    cases r1
    exact ⟨i, rfl, q _ ρ1 _ G1 H1 e1 k1 (.int _) p⟩
theorem ew_isN (h : EW Γ ta ρ fun x ρ1 => Φ (.bl (match x with | .non => true | _ => false)) ρ1) : EW Γ (tOp (fun x y H Q => y = .non ∧ Q (.bl (decide (x = .non))) H) ta (tC .non)) ρ Φ := fun σ G H Q k q =>
  h σ G H _ k fun x ρ1 vx G1 H1 e1 k1 r1 p => ⟨rfl, by
    refine q _ ρ1 _ G1 H1 e1 k1 ?_ p
    cases r1 <;> exact .bl _⟩
/-! ### tests -/
theorem tw_test (h : EW Γ ta ρ fun x ρ1 => ∃ b, x = .bl b ∧ Θ b ρ1) : TW Γ (tTest ta) ρ Θ := fun σ G H Q k q =>
  h σ G H _ k fun x ρ1 vx G1 H1 e1 k1 r1 ⟨b, hb, p⟩ => by
    subst hb
    cases r1
    exact ⟨b, rfl, q b ρ1 G1 H1 e1 k1 p⟩
theorem tw_B (h : EW Γ ta ρ fun x ρ1 => ∃ b, x = .bl b ∧ Θ b ρ1) : TW Γ (tB ta) ρ Θ := fun σ G H Q k q =>
  h σ G H _ k fun x ρ1 vx G1 H1 e1 k1 r1 ⟨b, hb, p⟩ => by
    subst hb
    cases r1
    exact ⟨b, rfl, q b ρ1 G1 H1 e1 k1 p⟩
theorem tw_not (h : TW Γ tt ρ fun b ρ1 => Θ (!b) ρ1) : TW Γ (tNot tt) ρ Θ := fun σ G H Q k q => h σ G H _ k fun b ρ1 G1 H1 e1 k1 p => q (!b) ρ1 G1 H1 e1 k1 p
theorem tw_and (h : TW Γ tt ρ fun b ρ1 => (b = true → TW Γ tu ρ1 Θ) ∧ (b = false → Θ false ρ1)) : TW Γ (tAnd tt tu) ρ Θ := fun σ G H Q k q => h σ G H _ k fun b ρ1 G1 H1 e1 k1 p => by
  cases b with
  | true => exact iteT (p.1 rfl σ G1 H1 Q k1 fun b' ρ2 G2 H2 e2 k2 p2 => q b' ρ2 G2 H2 (e1.trans e2) k2 p2)
  | false => exact iteF (q false ρ1 G1 H1 e1 k1 (p.2 rfl))
theorem tw_or (h : TW Γ tt ρ fun b ρ1 => (b = true → Θ true ρ1) ∧ (b = false → TW Γ tu ρ1 Θ)) : TW Γ (tOr tt tu) ρ Θ := fun σ G H Q k q => h σ G H _ k fun b ρ1 G1 H1 e1 k1 p => by
  cases b with
  | true => exact iteT (q true ρ1 G1 H1 e1 k1 (p.1 rfl))
  | false => exact iteF (p.2 rfl σ G1 H1 Q k1 fun b' ρ2 G2 H2 e2 k2 p2 => q b' ρ2 G2 H2 (e1.trans e2) k2 p2)
theorem ew_andV (h : EW Γ ta ρ fun x ρ1 => ∃ b, x = .bl b ∧ (b = true → EW Γ tb ρ1 Φ) ∧ (b = false → Φ (.bl false) ρ1)) : EW Γ (tAndV ta tb) ρ Φ := fun σ G H Q k q =>
  h σ G H _ k fun x ρ1 vx G1 H1 e1 k1 r1 ⟨b, hb, p1, p2⟩ => by
    subst hb
    cases r1
    refine ⟨b, rfl, ?_⟩
    cases b with
    | true => exact iteT (p1 rfl σ G1 H1 Q k1 fun d ρ2 v G2 H2 e2 k2 r2 p => q d ρ2 v G2 H2 (e1.trans e2) k2 r2 p)
    | false => exact iteF (q _ ρ1 _ G1 H1 e1 k1 (.bl _) (p2 rfl))
theorem ew_orV (h : EW Γ ta ρ fun x ρ1 => ∃ b, x = .bl b ∧ (b = true → Φ (.bl true) ρ1) ∧ (b = false → EW Γ tb ρ1 Φ)) : EW Γ (tOrV ta tb) ρ Φ := fun σ G H Q k q =>
  h σ G H _ k fun x ρ1 vx G1 H1 e1 k1 r1 ⟨b, hb, p1, p2⟩ => by
    subst hb
    cases r1
    refine ⟨b, rfl, ?_⟩
    cases b with
    | true => exact iteT (q _ ρ1 _ G1 H1 e1 k1 (.bl _) (p1 rfl))
    | false => exact iteF (p2 rfl σ G1 H1 Q k1 fun d ρ2 v G2 H2 e2 k2 r2 p => q d ρ2 v G2 H2 (e1.trans e2) k2 r2 p)
theorem ew_notV (h : EW Γ ta ρ fun x ρ1 => ∃ b, x = .bl b ∧ Φ (.bl (!b)) ρ1) : EW Γ (tNotV ta) ρ Φ := fun σ G H Q k q =>
  h σ G H _ k fun x ρ1 vx G1 H1 e1 k1 r1 ⟨b, hb, p⟩ => by
    subst hb
    cases r1
    exact ⟨b, rfl, q _ ρ1 _ G1 H1 e1 k1 (.bl _) p⟩
theorem ew_if (h : TW Γ tt ρ fun b ρ1 => (b = true → EW Γ ta ρ1 Φ) ∧ (b = false → EW Γ tb ρ1 Φ)) : EW Γ (tIf tt ta tb) ρ Φ := fun σ G H Q k q => h σ G H _ k fun b ρ1 G1 H1 e1 k1 p => by
  cases b with
  | true => exact iteT (p.1 rfl σ G1 H1 Q k1 fun d ρ2 v G2 H2 e2 k2 r2 p => q d ρ2 v G2 H2 (e1.trans e2) k2 r2 p)
  | false => exact iteF (p.2 rfl σ G1 H1 Q k1 fun d ρ2 v G2 H2 e2 k2 r2 p => q d ρ2 v G2 H2 (e1.trans e2) k2 r2 p)
theorem ew_chain {r r' : R2} (h : EW Γ ta ρ fun x ρ1 => EW Γ tb ρ1 fun y ρ2 => ∃ b, OpV Γ r x y (.bl b) ∧ (b = true → EW Γ tc ρ2 fun w ρ3 => ∃ z, OpV Γ r' y w z ∧ Φ z ρ3) ∧ (b = false → Φ (.bl false) ρ2)) : EW Γ (tChain r r' ta tb tc) ρ Φ := fun σ G H Q k q =>
  h σ G H _ k fun x ρ1 vx G1 H1 e1 k1 r1 h1 => h1 σ G1 H1 _ k1 fun y ρ2 vy G2 H2 e2 k2 r2 ⟨b, h2, p1, p2⟩ =>
    h2 G2 H2 vx vy _ k2.gh (r1.mono e2) r2 fun v rv => by
      cases rv
      refine ⟨b, rfl, ?_⟩
      cases b with
      | true => exact iteT (p1 rfl σ G2 H2 _ k2 fun w ρ3 vw G3 H3 e3 k3 r3 ⟨z, h3, p⟩ => h3 G3 H3 vy vw Q k3.gh (r2.mono e3) r3 fun v rv => q z ρ3 v G3 H3 ((e1.trans e2).trans e3) k3 rv p)
      | false => exact iteF (q _ ρ2 _ G2 H2 (e1.trans e2) k2 (.bl _) (p2 rfl))
/-! ### arguments, displays -/
theorem aw_nil (p : Λ [] ρ) : AW Γ tNil ρ Λ := fun σ G H Q k q => q [] ρ [] G H (Ex.refl G) k .nil p
theorem aw_cons {ts : TA} (h : EW Γ ta ρ fun d ρ1 => AW Γ ts ρ1 fun ds ρ2 => Λ (d :: ds) ρ2) : AW Γ (tCons ta ts) ρ Λ := fun σ G H Q k q =>
  h σ G H _ k fun d ρ1 v G1 H1 e1 k1 r1 h1 => h1 σ G1 H1 _ k1 fun ds ρ2 vs G2 H2 e2 k2 r2 p => q (d :: ds) ρ2 (v :: vs) G2 H2 (e1.trans e2) k2 (.cons (r1.mono e2) r2) p
theorem ew_tup {ts : TA} (h : AW Γ ts ρ fun ds ρ1 => ds.length ≤ 100000 ∧ Φ (.tup ds) ρ1) : EW Γ (tTup ts) ρ Φ := fun σ G H Q k q =>
  h σ G H _ k fun ds ρ1 vs G1 H1 e1 k1 r1 ⟨hl, p⟩ => ⟨Evl.sz_of (by rw [r1.length]; exact hl), fun a ha => by
    obtain ⟨k2, e2⟩ := k1.new (o := .tup vs) ha
    exact q _ ρ1 _ _ _ (e1.trans e2) k2 (.tup (SqT.of upd_same) (r1.mono e2)) p⟩
theorem ew_lst {ts : TA} (h : AW Γ ts ρ fun ds ρ1 => ds.length ≤ 100000 ∧ Φ (.lst ds) ρ1) : EW Γ (tLst ts) ρ Φ := fun σ G H Q k q =>
  h σ G H _ k fun ds ρ1 vs G1 H1 e1 k1 r1 ⟨hl, p⟩ => ⟨Evl.sz_of (by rw [r1.length]; exact hl), fun a ha => by
    obtain ⟨k2, e2⟩ := k1.new (o := .lst vs) ha
    exact q _ ρ1 _ _ _ (e1.trans e2) k2 (.lst (SqL.of upd_same) (r1.mono e2)) p⟩
/-- a new list of one's own -/
theorem br_newC {G H : Hp} {σ : St} {p : Addr} {vs : HO} {ds : Ct} (k : Ok Γ G H σ ρ) (hp : H p = none) (r : RepC Γ.K G vs ds) : BR Γ G (upd H p vs) σ ρ (.ref p) (.ow ds) := by
  refine ⟨⟨p, vs, rfl, upd_same, r, Evl.fresh_back k.gh hp, fun h => Γ.R.dom H p k.res h hp, ?_⟩, fun es _ a e => ?_⟩
  · cases e : Γ.H p with
    | none => rfl
    | some u => exact absurd hp (k.dm p (by rw [e]; simp))
  · cases e
    refine ⟨fun i o => ?_, fun q hq e => ?_⟩
    · obtain ⟨xs, e1, _⟩ := own_in k o
      rw [hp] at e1
      cases e1
    · obtain ⟨e1, _⟩ := k.cel q hq
      rw [e, hp] at e1
      cases e1
theorem br_new {G H : Hp} {σ : St} {p : Addr} {vs : List V} {ds : List D} (k : Ok Γ G H σ ρ) (hp : H p = none) (r : RepL Γ.K G vs ds) : BR Γ G (upd H p (.lst vs)) σ ρ (.ref p) (.ow (.lst ds)) := br_newC k hp (.lst r)
theorem Ok.lst {G H : Hp} {σ : St} {l : Nat} {ds : List D} (k : Ok Γ G H σ ρ) (h : ρ[l]? = some (some (.ow (.lst ds)))) : ∃ a xs, σ[l]? = some (some (.ref a)) ∧ H a = some (.lst xs) ∧ RepL Γ.K G xs ds := by
  obtain ⟨v, h1, a, o, rfl, g1, g2, _⟩ := k.var l _ h
  cases g2 with
  | lst g2 => exact ⟨a, _, h1, g1, g2⟩
theorem eb_lst {ts : TA} (h : AW Γ ts ρ fun ds ρ1 => ds.length ≤ 100000 ∧ Ψ (.ow (.lst ds)) ρ1) : EB Γ (tLst ts) ρ Ψ := fun σ G H Q k q =>
  h σ G H _ k fun ds ρ1 vs G1 H1 e1 k1 r1 ⟨hl, p⟩ => ⟨Evl.sz_of (by rw [r1.length]; exact hl), fun a ha => q _ ρ1 _ _ _ e1 (k1.newO ha) (br_new k1 ha r1) p⟩

/-! ### calls -/
/-- what a def promises of plain data: C, from its arguments, tells when a result (or an exception) is right -/
abbrev Cn := PySem.W.Frag → Addr → List D → (B → Prop) → (Addr → Str → D → Prop) → Prop
def BVr (K : PySem.W.Frag) (R : Rsc) (G H H0 : Hp) (v : V) : B → Prop
  | .fz d => Rep K G v d
  | .ow ds => ∃ a xs, v = .ref a ∧ H a = some xs ∧ RepC K G xs ds ∧ G a = none ∧ ¬ R.F a ∧ H0 a = none
/-- the state behind a call that was made at G, H -/
structure Aft (R : Rsc) (G H G' H' : Hp) : Prop where
  gg : Ex G G'
  gh : Ex G' H'
  res : R.I H'
  rg : ∀ a, R.F a → G' a = none
  nw : ∀ a, G a = none → H a ≠ none → G' a = none
  fr : ∀ a o, ¬ R.F a → H a = some o → H' a = some o
  dm : ∀ a, H a ≠ none → H' a ≠ none
def SpD (K : PySem.W.Frag) (Fam : Rsc → Prop) (C : Cn) : Sp := fun vs H Q E => ∃ (R : Rsc) (G : Hp) (ds : List D) (Ψ : B → Prop) (Ξ : Addr → Str → D → Prop), Fam R ∧ R.I H ∧ (∀ a, R.F a → G a = none) ∧ Ex G H ∧ RepL K G vs ds ∧ C K R.w ds Ψ Ξ ∧
  (∀ b v G' H', Aft R G H G' H' → BVr K R G' H' H v b → Ψ b → Q v H') ∧
  (∀ Cl f v d dd G' H', Aft R G H G' H' → H' dd = some (.xd [(f, v)]) → H dd = none → Rep K G' v d → Ξ Cl f d → E (.ref Cl) (some dd) H')
/-- an exception's field in its own dict, newly made -/
structure XC (Γ : Ctx) (H' : Hp) (dd : Addr) (f : Str) (v : V) : Prop where
  at_ : H' dd = some (.xd [(f, v)])
  nf : ¬ Γ.R.F dd
  nx : ∀ p ∈ Γ.X, p.1 ≠ dd
  nh : Γ.H dd = none
/-- what a def's body knows of the wish of exceptions -/
def KE (Γ : Ctx) (Ξ : Addr → Str → D → Prop) (E : XK) : Prop := ∀ C f v d dd σ' ρ' G' H', Ok Γ G' H' σ' ρ' → XC Γ H' dd f v → Rep Γ.K G' v d → Ξ C f d → E (.ref C) (some dd) H'
abbrev NoX : Addr → Str → D → Prop := fun _ _ _ => False
theorem Ok.aft {G G' H H' : Hp} {σ : St} (k : Ok Γ G H σ ρ) (a : Aft Γ.R G H G' H') : Ok Γ G' H' σ ρ := k.grow a.gg a.gh a.nw a.fr a.dm a.res a.rg
theorem Aft.no {R : Rsc} {G G' H H' : Hp} (hr : R.I H) (hg : ∀ a, R.F a → G a = none) (hG : Ex G H) (a : Aft Rsc.no G H G' H') : Aft R G H G' H' where
  gg := a.gg
  gh := a.gh
  res := R.st H H' hr fun b hb => by
    cases e : H b with
    | none => exact absurd e (R.dom H b hr hb)
    | some o => exact a.fr b o (fun z => z) e
  rg := fun b hb => a.nw b (hg b hb) (R.dom H b hr hb)
  nw := a.nw
  fr := fun b o _ h => a.fr b o (fun z => z) h
  dm := a.dm
theorem br_of {G G' H H' : Hp} {σ : St} {v : V} {b : B} (k : Ok Γ G H σ ρ) (h : BVr Γ.K Γ.R G' H' H v b) : BR Γ G' H' σ ρ v b := by
  cases b with
  | fz d => exact .fz h
  | ow ds =>
    obtain ⟨a, xs, rfl, h1, h2, h3, h4, h5⟩ := h
    refine ⟨⟨a, xs, rfl, h1, h2, h3, h4, ?_⟩, fun es _ c e => ?_⟩
    · cases e : Γ.H a with
      | none => rfl
      | some u => exact absurd h5 (k.dm a (by rw [e]; simp))
    · cases e
      refine ⟨fun i o => ?_, fun q hq e => ?_⟩
      · obtain ⟨xs, e1, _⟩ := own_in k o
        rw [h5] at e1
        cases e1
      · obtain ⟨e1, _⟩ := k.cel q hq
        rw [e, h5] at e1
        cases e1
/-- a call of a def that draws nothing -/
theorem eb_callP {K : PySem.W.Frag} {C : Cn} {Fam : Rsc → Prop} {ts : TA} {E : XK} (hK : K = Γ.K) (hF : Fam Rsc.no) (h : AW Γ ts ρ fun ds ρ1 => C Γ.K 0 ds (fun b => Ψ b ρ1) NoX) : EB Γ (tCall (SpD K Fam C) [] E ts) ρ Ψ := fun σ G H Q k q =>
  h σ G H _ k fun ds ρ1 vs G1 H1 e1 k1 r1 hc => by
    subst hK
    show SpD Γ.K Fam C (vs ++ []) H1 Q E
    rw [List.append_nil]
    refine ⟨Rsc.no, G1, ds, _, NoX, hF, trivial, fun _ z => z.elim, k1.gh, r1, hc, fun b v G' H' a hb p => ?_, fun _ _ _ _ _ _ _ _ _ _ _ z => z.elim⟩
    have a' := Aft.no k1.res k1.rg k1.gh a
    refine q b ρ1 v G' H' (e1.trans a.gg) (k1.aft a') (br_of k1 ?_) p
    cases b with
    | fz d => exact hb
    | ow ds =>
      obtain ⟨c, xs, e, h1, h2, h3, h4, h5⟩ := hb
      exact ⟨c, xs, e, h1, h2, h3, fun z => Γ.R.dom H1 c k1.res z h5, h5⟩
/-- a call of a def that draws from the resource -/
theorem eb_callR {K : PySem.W.Frag} {C : Cn} {Fam : Rsc → Prop} {ts : TA} {E : XK} (hK : K = Γ.K) (hF : Fam Γ.R) (h : AW Γ ts ρ fun ds ρ1 => C Γ.K Γ.R.w ds (fun b => Ψ b ρ1) NoX) : EB Γ (tCall (SpD K Fam C) [] E ts) ρ Ψ := fun σ G H Q k q =>
  h σ G H _ k fun ds ρ1 vs G1 H1 e1 k1 r1 hc => by
    subst hK
    show SpD Γ.K Fam C (vs ++ []) H1 Q E
    rw [List.append_nil]
    exact ⟨Γ.R, G1, ds, _, NoX, hF, k1.res, k1.rg, k1.gh, r1, hc, fun b v G' H' a hb p => q b ρ1 v G' H' (e1.trans a.gg) (k1.aft a) (br_of k1 hb) p, fun _ _ _ _ _ _ _ _ _ _ _ z => z.elim⟩
/-- a result as data -/
@[reducible] def asD : B → D
  | .fz d => d
  | .ow c => c.d
theorem ew_of_eb (h : EB Γ te ρ fun b ρ1 => Φ (asD b) ρ1) : EW Γ te ρ Φ := fun σ G H Q k q => h σ G H Q k fun b ρ1 v G1 H1 e1 k1 r1 p => by
  cases b with
  | fz d => exact q d ρ1 v G1 H1 e1 k1 r1.1 p
  | ow ds =>
    obtain ⟨⟨a, xs, rfl, h1, h2, h3, h4, h5⟩, hn⟩ := r1
    -- the list is frozen
    have gg : Ex G1 (upd G1 a xs) := Ex.new h3
    refine q ds.d ρ1 _ (upd G1 a xs) H1 (e1.trans gg) ?_ ((RepC.mono gg h2).rep upd_same) p
    refine ⟨fun b o h => ?_, k1.g0.trans gg, fun b g1 g2 => ?_, k1.fr, k1.dm, k1.res, fun b h => by rw [upd_ne fun e => h4 (by rw [← e]; exact h)]; exact k1.rg b h, k1.len, fun j b h => ?_, k1.dj, fun p hp => ?_, k1.nx⟩
    · by_cases e : b = a
      · subst e
        rw [upd_same] at h
        cases h
        exact h1
      · rw [upd_ne e] at h
        exact k1.gh b o h
    · rw [upd_ne fun e => g2 (by rw [e]; exact h5)]
      exact k1.nw b g1 g2
    · obtain ⟨v, g1, g2⟩ := k1.var j b h
      refine ⟨v, g1, ?_⟩
      cases b with
      | fz d => exact Rep.mono gg g2
      | ow es =>
        obtain ⟨c, ys, rfl, q1, q2, q3, q4, q5⟩ := g2
        have hc : c ≠ a := fun e => (hn ds rfl a rfl).1 j ⟨by rw [g1, e], es, h⟩
        exact ⟨c, ys, rfl, q1, RepC.mono gg q2, by rw [upd_ne hc]; exact q3, q4, q5⟩
    · obtain ⟨e1, e2, e3⟩ := k1.cel p hp
      exact ⟨e1, by rw [upd_ne ((hn ds rfl a rfl).2 p hp)]; exact e2, e3⟩
theorem ew_callP {K : PySem.W.Frag} {C : Cn} {Fam : Rsc → Prop} {ts : TA} {E : XK} (hK : K = Γ.K) (hF : Fam Rsc.no) (h : AW Γ ts ρ fun ds ρ1 => C Γ.K 0 ds (fun b => Φ (asD b) ρ1) NoX) : EW Γ (tCall (SpD K Fam C) [] E ts) ρ Φ := ew_of_eb (eb_callP hK hF h)
theorem ew_callR {K : PySem.W.Frag} {C : Cn} {Fam : Rsc → Prop} {ts : TA} {E : XK} (hK : K = Γ.K) (hF : Fam Γ.R) (h : AW Γ ts ρ fun ds ρ1 => C Γ.K Γ.R.w ds (fun b => Φ (asD b) ρ1) NoX) : EW Γ (tCall (SpD K Fam C) [] E ts) ρ Φ := ew_of_eb (eb_callR hK hF h)
/-- from the promise to the body -/
theorem body_ok {K : PySem.W.Frag} {Fam : Rsc → Prop} {C : Cn} {N : List Str} {t : TS} {vs : List V} {H : Hp} {Q : VK} {E : XK} (n : Nat) (hn : n ≤ N.length) (hlen : ∀ K w ds Ψ Ξ, C K w ds Ψ Ξ → ds.length = n) (h : SpD K Fam C vs H Q E)
    (hb : ∀ (Γ : Ctx) (ds : List D) (Ψ : B → Prop) (Ξ : Addr → Str → D → Prop), Γ.K = K → Γ.X = [] → Fam Γ.R → C K Γ.R.w ds Ψ Ξ → KE Γ Ξ E →
      SW Γ t (ds.map (fun d => some (.fz d)) ++ List.replicate (N.length - ds.length) none) { nx := fun _ => Ψ (.fz .non), rt := Ψ, bk := fun _ => False, ct := fun _ => False, xr := fun _ => Ξ }) :
    t { nx := fun _ H' => Q .non H', rt := Q } (start N vs) H := by
  obtain ⟨R, G, ds, Ψ, Ξ, hF, hr, hg, hG, rl, hc, kq, ke⟩ := h
  have hl := rl.length
  have hk : Ok ⟨K, G, H, R, []⟩ G H (L2.start N vs) (ds.map (fun d => some (.fz d)) ++ List.replicate (N.length - ds.length) none) := by
    refine ⟨hG, Ex.refl G, fun a h _ => h, fun a o _ h => h, fun a h => h, hr, hg, ?_, fun i b h => ?_, fun i j a ⟨_, es, q⟩ _ => ?_, fun p hp => absurd hp (by simp), fun i a _ p hp => absurd hp (by simp)⟩
    · unfold L2.start
      rw [List.length_append, List.length_append, List.length_map, List.length_map, List.length_replicate, List.length_replicate, hl]
    · have hlt : i < ds.length := by
        by_cases hi : i < ds.length
        · exact hi
        · exfalso
          rw [List.getElem?_append_right (by rw [List.length_map]; omega)] at h
          obtain ⟨_, e⟩ := List.getElem?_eq_some_iff.mp h
          rw [List.getElem_replicate] at e
          cases e
      rw [List.getElem?_append_left (by rw [List.length_map]; exact hlt), List.getElem?_map] at h
      obtain ⟨d, hd⟩ : ∃ d, ds[i]? = some d := ⟨ds[i], List.getElem?_eq_getElem hlt⟩
      rw [hd] at h
      cases h
      obtain ⟨v, hv, rv⟩ := rl.getD hd
      refine ⟨v, ?_, rv⟩
      unfold L2.start
      rw [List.getElem?_append_left (by rw [List.length_map, hl]; exact hlt), List.getElem?_map, hv]
      rfl
    · exfalso
      have hlt : i < ds.length := by
        by_cases hi : i < ds.length
        · exact hi
        · exfalso
          rw [List.getElem?_append_right (by rw [List.length_map]; omega)] at q
          obtain ⟨_, e⟩ := List.getElem?_eq_some_iff.mp q
          rw [List.getElem_replicate] at e
          cases e
      rw [List.getElem?_append_left (by rw [List.length_map]; exact hlt), List.getElem?_map] at q
      cases hd : ds[i]? with
      | none =>
        rw [hd] at q
        cases q
      | some d =>
        rw [hd] at q
        cases q
  have aft : ∀ {G' H' : Hp} {σ' : St} {ρ' : Env}, Ok ⟨K, G, H, R, []⟩ G' H' σ' ρ' → Aft R G H G' H' := fun k => ⟨k.g0, k.gh, k.res, k.rg, k.nw, k.fr, k.dm⟩
  refine hb ⟨K, G, H, R, []⟩ ds Ψ Ξ rfl rfl hF hc (fun C f v d dd σ' ρ' G' H' k x rv xi => ke C f v d dd G' H' (aft k) x.at_ x.nh rv xi) _ G H _ hk (fun ρ' σ' G' H' _ k p => kq (.fz .non) _ G' H' (aft k) (Rep.non : Rep K G' V.non D.non) p) (fun b v σ' ρ' G' H' k r p => kq b v G' H' (aft k) ?_ p) (fun _ _ _ _ _ _ z => z.elim) (fun _ _ _ _ _ _ z => z.elim)
  have r1 := r.1
  cases b with
  | fz d => exact r1
  | ow es => exact r1
/-! ### statements -/
variable {ts tu : TS} {Δ : Fin}
theorem sw_next (p : Δ.nx ρ) : SW Γ tNext ρ Δ := fun σ G H D k hn hr hb hc => hn ρ σ G H (Ex.refl G) k p
theorem sw_brk (p : Δ.bk ρ) : SW Γ tBreak ρ Δ := fun σ G H D k hn hr hb hc => hb ρ σ G H (Ex.refl G) k p
theorem sw_cont (p : Δ.ct ρ) : SW Γ tCont ρ Δ := fun σ G H D k hn hr hb hc => hc ρ σ G H (Ex.refl G) k p
theorem sw_seq (h : SW Γ ts ρ { Δ with nx := fun ρ1 => SW Γ tu ρ1 Δ }) : SW Γ (tSeq ts tu) ρ Δ := fun σ G H D k hn hr hb hc =>
  h σ G H { D with nx := tu D } k (fun ρ1 σ1 G1 H1 e k1 p => p σ1 G1 H1 D k1 (fun ρ' σ' G' H' e' => hn ρ' σ' G' H' (e.trans e')) hr (fun ρ' σ' G' H' e' => hb ρ' σ' G' H' (e.trans e')) (fun ρ' σ' G' H' e' => hc ρ' σ' G' H' (e.trans e'))) hr hb hc
theorem sw_asg {i : Nat} (h : EW Γ te ρ fun d ρ1 => Δ.nx (ρ1.set i (some (.fz d)))) : SW Γ (tAsg te (gName i)) ρ Δ := fun σ G H D k hn hr hb hc =>
  h σ G H _ k fun d ρ1 v G1 H1 e1 k1 r1 p => hn _ _ G1 H1 e1 (k1.store (.fz r1)) p
theorem sw_asgB {i : Nat} (h : EB Γ te ρ fun b ρ1 => Δ.nx (ρ1.set i (some b))) : SW Γ (tAsg te (gName i)) ρ Δ := fun σ G H D k hn hr hb hc =>
  h σ G H _ k fun b ρ1 v G1 H1 e1 k1 r1 p => hn _ _ G1 H1 e1 (k1.store r1) p
theorem sw_drop (h : EW Γ te ρ fun d ρ1 => Δ.nx ρ1) : SW Γ (tDrop te) ρ Δ := fun σ G H D k hn hr hb hc =>
  h σ G H _ k fun d ρ1 v G1 H1 e1 k1 r1 p => hn _ _ G1 H1 e1 k1 p
theorem sw_ret (h : EW Γ te ρ fun d ρ1 => Δ.rt (.fz d)) : SW Γ (tRet te) ρ Δ := fun σ G H D k hn hr hb hc =>
  h σ G H _ k fun d ρ1 v G1 H1 e1 k1 r1 p => hr _ v σ ρ1 G1 H1 k1 (.fz r1) p
theorem sw_retB (h : EB Γ te ρ fun b ρ1 => Δ.rt b) : SW Γ (tRet te) ρ Δ := fun σ G H D k hn hr hb hc =>
  h σ G H _ k fun b ρ1 v G1 H1 e1 k1 r1 p => hr _ v σ ρ1 G1 H1 k1 r1 p
theorem sw_retN (p : Δ.rt (.fz .non)) : SW Γ tRetN ρ Δ := fun σ G H D k hn hr hb hc => hr (.fz .non) .non σ ρ G H k (.fz (Rep.non : Rep Γ.K G V.non Dl.D.non)) p
/-- return x, x a list of one's own -/
theorem sw_retO {i : Nat} {ds : Ct} (h : ρ[i]? = some (some (.ow ds))) (p : Δ.rt (.ow ds)) : SW Γ (tRet (tVar i)) ρ Δ := fun σ G H D k hn hr hb hc => by
  obtain ⟨v, h1, h2⟩ := k.var i _ h
  refine ⟨v, h1, hr _ v σ (ρ.set i none) G H (k.weak (by rw [List.length_set]) fun j b e => ?_) ⟨h2, fun es _ a e => ⟨fun j o => ?_, k.nx i a ⟨by rw [h1, e], ds, h⟩⟩⟩ p⟩
  · by_cases hj : j = i
    · subst hj
      rw [List.getElem?_set_self (List.getElem?_eq_some_iff.mp h).1] at e
      cases e
    · rw [List.getElem?_set_ne (Ne.symm hj)] at e
      exact e
  · obtain ⟨q1, fs, q2⟩ := o
    by_cases hj : j = i
    · subst hj
      rw [List.getElem?_set_self (List.getElem?_eq_some_iff.mp h).1] at q2
      cases q2
    · rw [List.getElem?_set_ne (Ne.symm hj)] at q2
      exact hj (k.dj j i a ⟨q1, fs, q2⟩ ⟨by rw [h1, e], ds, h⟩)
theorem sw_if (h : TW Γ tt ρ fun b ρ1 => (b = true → SW Γ ts ρ1 Δ) ∧ (b = false → SW Γ tu ρ1 Δ)) : SW Γ (tIfS tt ts tu) ρ Δ := fun σ G H D k hn hr hb hc =>
  h σ G H _ k fun b ρ1 G1 H1 e1 k1 p => by
    have hn' : ∀ ρ' σ' G' H', Ex G1 G' → Ok Γ G' H' σ' ρ' → Δ.nx ρ' → D.nx σ' H' := fun ρ' σ' G' H' e' => hn ρ' σ' G' H' (e1.trans e')
    have hb' : ∀ ρ' σ' G' H', Ex G1 G' → Ok Γ G' H' σ' ρ' → Δ.bk ρ' → D.bk σ' H' := fun ρ' σ' G' H' e' => hb ρ' σ' G' H' (e1.trans e')
    have hc' : ∀ ρ' σ' G' H', Ex G1 G' → Ok Γ G' H' σ' ρ' → Δ.ct ρ' → D.ct σ' H' := fun ρ' σ' G' H' e' => hc ρ' σ' G' H' (e1.trans e')
    cases b with
    | true => exact iteT (p.1 rfl σ G1 H1 D k1 hn' hr hb' hc')
    | false => exact iteF (p.2 rfl σ G1 H1 D k1 hn' hr hb' hc')
theorem sw_imp {Δ' : Fin} (h : SW Γ ts ρ Δ') (h1 : ∀ ρ', Δ'.nx ρ' → Δ.nx ρ') (h2 : ∀ b, Δ'.rt b → Δ.rt b) (h3 : ∀ ρ', Δ'.bk ρ' → Δ.bk ρ') (h4 : ∀ ρ', Δ'.ct ρ' → Δ.ct ρ') : SW Γ ts ρ Δ := fun σ G H D k hn hr hb hc =>
  h σ G H D k (fun ρ' σ' G' H' e k' p => hn ρ' σ' G' H' e k' (h1 ρ' p)) (fun b v σ' ρ' G' H' k' r p => hr b v σ' ρ' G' H' k' r (h2 b p)) (fun ρ' σ' G' H' e k' p => hb ρ' σ' G' H' e k' (h3 ρ' p)) (fun ρ' σ' G' H' e k' p => hc ρ' σ' G' H' e k' (h4 ρ' p))
/-- slots forgotten, a list frozen: anywhere -/
theorem sw_weak {ρ' : Env} (hl : ρ'.length = ρ.length) (hs : ∀ (i : Nat) (b : B), ρ'[i]? = some (some b) → ρ[i]? = some (some b)) (h : SW Γ ts ρ' Δ) : SW Γ ts ρ Δ := fun σ G H D k => h σ G H D (k.weak hl hs)
theorem sw_freeze {i : Nat} {ds : Ct} (hi : ρ[i]? = some (some (.ow ds))) (h : SW Γ ts (ρ.set i (some (.fz ds.d))) Δ) : SW Γ ts ρ Δ := fun σ G H D k hn hr hb hc => by
  obtain ⟨v, h1, a, xs, rfl, _⟩ := k.var i _ hi
  obtain ⟨G', e, k', _⟩ := k.freeze hi h1
  exact h σ G' H D k' (fun ρ' σ' G2 H' e' => hn ρ' σ' G2 H' (e.trans e')) hr (fun ρ' σ' G2 H' e' => hb ρ' σ' G2 H' (e.trans e')) (fun ρ' σ' G2 H' e' => hc ρ' σ' G2 H' (e.trans e'))
/-- a, b = e1, e2 -/
theorem sw_par {i j : Nat} {ta : TA} (h : AW Γ ta ρ fun ds ρ1 => ∃ x y, ds = [x, y] ∧ Δ.nx ((ρ1.set i (some (.fz x))).set j (some (.fz y)))) : SW Γ (tPar i j ta) ρ Δ := fun σ G H D k hn hr hb hc =>
  h σ G H _ k fun ds ρ1 vs G1 H1 e1 k1 r1 ⟨x, y, e, p⟩ => by
    subst e
    cases r1 with
    | cons r1 r2 => cases r2 with
      | cons r2 r3 =>
        cases r3
        exact ⟨_, _, rfl, hn _ _ G1 H1 e1 ((k1.store (.fz r1)).store (.fz r2)) p⟩
/-- the names of a target take the data one by one -/
def gN : List Nat → TGs
  | [] => gNil
  | i :: r => gCons (gName i) (gN r)
def sets (ρ : Env) : List Nat → List D → Env
  | i :: r, d :: ds => sets (ρ.set i (some (.fz d))) r ds
  | _, _ => ρ
theorem gN_ok {G H : Hp} {Q : St → Hp → Prop} : ∀ (is : List Nat) {σ : St} {ρ : Env} {vs : List V} {ds : List D}, Ok Γ G H σ ρ → RepL Γ.K G vs ds → is.length = ds.length → (∀ σ', Ok Γ G H σ' (sets ρ is ds) → Q σ' H) → gN is vs σ H Q
  | [], _, _, _, _, k, .nil, _, q => ⟨rfl, q _ k⟩
  | i :: r, _, _, _, _, k, .cons h hs, e, q => ⟨_, _, rfl, gN_ok r (k.store (.fz h)) hs (by simpa using e) q⟩
/-- the target of a loop: data to slots -/
def GD (Γ : Ctx) (g : TG) (d : D) (ρ ρ' : Env) : Prop := ∀ σ G H v (Q : St → Hp → Prop), Ok Γ G H σ ρ → Rep Γ.K G v d → (∀ σ', Ok Γ G H σ' ρ' → Q σ' H) → g v σ H Q
theorem gd_name {i : Nat} {d : D} : GD Γ (gName i) d ρ (ρ.set i (some (.fz d))) := fun σ G H v Q k r q => q _ (k.store (.fz r))
theorem sq_up {G H : Hp} {a : Addr} {xs : List V} {K : PySem.W.Frag} (e : Ex G H) (h : SqT K G a xs) : SqT K H a xs := Evl.ex_t e h
theorem gd_tup {K : PySem.W.Frag} {is : List Nat} {n : Nat} {g : TGs} {ds : List D} (hK : K = Γ.K) (hg : g = gN is) (h1 : ds.length = n) (h2 : is.length = n) : GD Γ (gTup K n g) (.tup ds) ρ (sets ρ is ds) := fun σ G H v Q k r q => by
  subst hg
  subst hK
  cases r with
  | tup hq hs => exact ⟨_, _, rfl, sq_up k.gh hq, hs.length.trans h1, gN_ok is k hs (h2.trans h1.symm) q⟩
/-- any target -/
theorem sw_asgG {g : TG} (h : EW Γ te ρ fun d ρ1 => ∃ ρ2, GD Γ g d ρ1 ρ2 ∧ Δ.nx ρ2) : SW Γ (tAsg te g) ρ Δ := fun σ G H D k hn hr hb hc =>
  h σ G H _ k fun d ρ1 v G1 H1 e1 k1 r1 ⟨ρ2, g2, p⟩ => g2 σ G1 H1 v _ k1 r1 fun σ' k' => hn _ σ' G1 H1 e1 k' p
/-- a, b = e and a, b, c = e, e a tuple -/
theorem sw_unp2 {K : PySem.W.Frag} {n i j : Nat} (hK : K = Γ.K) (hn : n = 2) (h : EW Γ te ρ fun d ρ1 => ∃ x y, d = .tup [x, y] ∧ Δ.nx ((ρ1.set i (some (.fz x))).set j (some (.fz y)))) : SW Γ (tAsg te (gTup K n (gCons (gName i) (gCons (gName j) gNil)))) ρ Δ := by
  subst hn
  exact sw_asgG (ew_imp h fun d ρ1 ⟨x, y, e, p⟩ => by
    subst e
    exact ⟨_, gd_tup (is := [i, j]) hK rfl rfl rfl, p⟩)
theorem sw_unp3 {K : PySem.W.Frag} {n i j l : Nat} (hK : K = Γ.K) (hn : n = 3) (h : EW Γ te ρ fun d ρ1 => ∃ x y z, d = .tup [x, y, z] ∧ Δ.nx (((ρ1.set i (some (.fz x))).set j (some (.fz y))).set l (some (.fz z)))) : SW Γ (tAsg te (gTup K n (gCons (gName i) (gCons (gName j) (gCons (gName l) gNil))))) ρ Δ := by
  subst hn
  exact sw_asgG (ew_imp h fun d ρ1 ⟨x, y, z, e, p⟩ => by
    subst e
    exact ⟨_, gd_tup (is := [i, j, l]) hK rfl rfl rfl, p⟩)
theorem br_t {A B : Prop} (h : A) : (true = true → A) ∧ (true = false → B) := ⟨fun _ => h, fun z => Bool.noConfusion z⟩
theorem br_f {A B : Prop} (h : B) : (false = true → A) ∧ (false = false → B) := ⟨fun z => Bool.noConfusion z, fun _ => h⟩
theorem len_ok {α : Type} {ds : List α} {P : Prop} (h : Nat.ble ds.length 100000 = true) (p : P) : ds.length ≤ 100000 ∧ P := ⟨Nat.le_of_ble_eq_true h, p⟩
/-- a word between a statement and the rest -/
theorem sw_cut (M : Env → Prop) (h : SW Γ ts ρ { Δ with nx := M }) (k : ∀ ρ', M ρ' → SW Γ tu ρ' Δ) : SW Γ (tSeq ts tu) ρ Δ := sw_seq (sw_imp h k (fun _ p => p) (fun _ p => p) (fun _ p => p))
/-- an if that something follows: where a walk stops -/
theorem sw_isif {tv : TS} (h : SW Γ (tSeq (tIfS tt ts tu) tv) ρ Δ) : SW Γ (tSeq (tIfS tt ts tu) tv) ρ Δ := h
/-- a word behind a statement -/
theorem sw_mid (M : Env → Prop) (h : SW Γ ts ρ { Δ with nx := M }) (k : ∀ ρ', M ρ' → Δ.nx ρ') : SW Γ ts ρ Δ := sw_imp h k (fun _ p => p) (fun _ p => p) (fun _ p => p)
/-! ### loops -/
theorem sw_while (J : Nat → Env → Prop) (m : Nat) (h0 : J m ρ) (hs : ∀ m ρ', J m ρ' → TW Γ tt ρ' fun b ρ1 => (b = true → SW Γ ts ρ1 { Δ with nx := fun ρ2 => ∃ m', m' < m ∧ J m' ρ2, ct := fun ρ2 => ∃ m', m' < m ∧ J m' ρ2, bk := Δ.nx }) ∧ (b = false → Δ.nx ρ1)) : SW Γ (tWhile tt ts) ρ Δ := fun σ G0 H D k hn hr hb hc =>
  ⟨fun m σ H => ∃ G ρ', Ex G0 G ∧ Ok Γ G H σ ρ' ∧ J m ρ', ⟨m, G0, ρ, Ex.refl _, k, h0⟩, fun m σ H ⟨G, ρ', e0, k, hi⟩ => hs m ρ' hi σ G H _ k fun b ρ1 G1 H1 e1 k1 p => by
    cases b with
    | true =>
      refine iteT ⟨fun σ' H' => ∃ m', m' < m ∧ ∃ G ρ', Ex G0 G ∧ Ok Γ G H' σ' ρ' ∧ J m' ρ', fun σ' H' h => h, p.1 rfl σ G1 H1 _ k1 (fun ρ' σ' G' H' e' k' ⟨m', h1, h2⟩ => ⟨m', h1, G', ρ', (e0.trans e1).trans e', k', h2⟩) hr (fun ρ' σ' G' H' e' => hn ρ' σ' G' H' ((e0.trans e1).trans e')) (fun ρ' σ' G' H' e' k' ⟨m', h1, h2⟩ => ⟨m', h1, G', ρ', (e0.trans e1).trans e', k', h2⟩)⟩
    | false => exact iteF (hn ρ1 σ G1 H1 (e0.trans e1) k1 (p.2 rfl))⟩
/-- one turn of a for, from the data's view -/
def Turn1 (Γ : Ctx) (g : TG) (ts : TS) (Δ : Fin) (x : D) (ρ2 : Env) (nxt : Env → Prop) : Prop := ∃ ρ3, GD Γ g x ρ2 ρ3 ∧ SW Γ ts ρ3 { Δ with nx := nxt, ct := nxt, bk := Δ.nx }
theorem Turn1.run {g : TG} {x : D} {nxt : Env → Prop} {G0 G1 G H : Hp} {σ : St} {D : Ends} {v : V} {N : St → Hp → Prop} (t : Turn1 Γ g ts Δ x ρ nxt) (k : Ok Γ G H σ ρ) (e0 : Ex G0 G1) (e : Ex G1 G) (r : Rep Γ.K G v x)
    (hn : ∀ ρ' σ' G' H', Ex G0 G' → Ok Γ G' H' σ' ρ' → Δ.nx ρ' → D.nx σ' H') (hr : ∀ b v σ' ρ' G' H', Ok Γ G' H' σ' ρ' → BR Γ G' H' σ' ρ' v b → Δ.rt b → D.rt v H') (hN : ∀ σ' H', (∃ G ρ', Ex G1 G ∧ Ok Γ G H' σ' ρ' ∧ nxt ρ') → N σ' H') :
    g v σ H fun σ2 H2 => ts { D with nx := N, ct := N, bk := D.nx } σ2 H2 := by
  obtain ⟨ρ3, g3, s3⟩ := t
  refine g3 σ G H v _ k r fun σ' k3 => s3 σ' G H _ k3 (fun ρ' σ' G' H' e' k' p => hN σ' H' ⟨G', ρ', e.trans e', k', p⟩) hr (fun ρ' σ' G' H' e' k' p => hn ρ' σ' G' H' ((e0.trans e).trans e') k' p) (fun ρ' σ' G' H' e' k' p => hN σ' H' ⟨G', ρ', e.trans e', k', p⟩)
theorem sw_forR {ta : TA} {g : TG} (h : AW Γ ta ρ fun ds ρ1 => ∃ n : Int, ds = [.int n] ∧ (n ≤ 2 ^ 61 ∧ -(2 ^ 61) ≤ n) ∧ ∃ J : Nat → Env → Prop, J 0 ρ1 ∧
    (∀ i ρ2, i < n.toNat → J i ρ2 → Turn1 Γ g ts Δ (.int i) ρ2 (J (i + 1))) ∧ (∀ ρ2, J n.toNat ρ2 → Δ.nx ρ2)) : SW Γ (tFor (iRng1 ta) g ts) ρ Δ := fun σ G H D k hn hr hb hc =>
  h σ G H _ k fun ds ρ1 vs G1 H1 e1 k1 r1 ⟨n, e, b1, J, i0, is, id⟩ => by
    subst e
    cases r1 with
    | cons r r' => cases r' with
      | nil =>
        cases r
        exact ⟨n, rfl, by omega, by omega, for_range (lo := 0) (n := n.toNat) (fun i σ H => ∃ G ρ2, Ex G1 G ∧ Ok Γ G H σ ρ2 ∧ J i ρ2) ⟨G1, ρ1, Ex.refl _, k1, i0⟩ (fun i σ H hi ⟨G2, ρ2, e2, k2, p2⟩ => by
          rw [Int.zero_add]
          exact (is i ρ2 hi p2).run k2 e1 e2 (.int _) hn hr fun _ _ h => h) (fun σ H ⟨G2, ρ2, e2, k2, p2⟩ => hn ρ2 σ G2 H (e1.trans e2) k2 (id ρ2 p2))⟩
theorem sw_forR2 {ta : TA} {g : TG} (h : AW Γ ta ρ fun ds ρ1 => ∃ lo n : Int, ds = [.int lo, .int n] ∧ (n ≤ 2 ^ 61 ∧ -(2 ^ 61) ≤ n ∧ lo ≤ 2 ^ 61 ∧ -(2 ^ 61) ≤ lo) ∧ ∃ J : Nat → Env → Prop, J 0 ρ1 ∧
    (∀ i ρ2, i < (n - lo).toNat → J i ρ2 → Turn1 Γ g ts Δ (.int (lo + i)) ρ2 (J (i + 1))) ∧ (∀ ρ2, J (n - lo).toNat ρ2 → Δ.nx ρ2)) : SW Γ (tFor (iRng2 ta) g ts) ρ Δ := fun σ G H D k hn hr hb hc =>
  h σ G H _ k fun ds ρ1 vs G1 H1 e1 k1 r1 ⟨lo, n, e, b1, J, i0, is, id⟩ => by
    subst e
    cases r1 with
    | cons r r' => cases r' with
      | cons r2 r' => cases r' with
        | nil =>
          cases r
          cases r2
          exact ⟨lo, n, rfl, by omega, for_range (lo := lo) (n := (n - lo).toNat) (fun i σ H => ∃ G ρ2, Ex G1 G ∧ Ok Γ G H σ ρ2 ∧ J i ρ2) ⟨G1, ρ1, Ex.refl _, k1, i0⟩ (fun i σ H hi ⟨G2, ρ2, e2, k2, p2⟩ =>
            (is i ρ2 hi p2).run k2 e1 e2 (.int _) hn hr fun _ _ h => h) (fun σ H ⟨G2, ρ2, e2, k2, p2⟩ => hn ρ2 σ G2 H (e1.trans e2) k2 (id ρ2 p2))⟩
/-- what a loop over a sequence asks -/
def Turns (Γ : Ctx) (g : TG) (ts : TS) (Δ : Fin) (ds : List D) (ρ1 : Env) : Prop := ∃ J : Nat → Env → Prop, J 0 ρ1 ∧ (∀ i x ρ2, ds[i]? = some x → J i ρ2 → Turn1 Γ g ts Δ x ρ2 (J (i + 1))) ∧ (∀ ρ2, J ds.length ρ2 → Δ.nx ρ2)
theorem sw_forT {g : TG} {K : PySem.W.Frag} (hK : K = Γ.K) (h : EW Γ te ρ fun d ρ1 => ∃ ds, d = .tup ds ∧ Turns Γ g ts Δ ds ρ1) : SW Γ (tFor (iTup K te) g ts) ρ Δ := fun σ G H D k hn hr hb hc =>
  h σ G H _ k fun d ρ1 v G1 H1 e1 k1 r1 ⟨ds, e, J, i0, is, id⟩ => by
    subst e
    subst hK
    cases r1 with
    | @tup a xs _ hq hs =>
      exact ⟨a, rfl, ⟨xs, sq_up k1.gh hq⟩, for_tup (xs := xs) (fun i σ H => ∃ G ρ2, Ex G1 G ∧ Ok Γ G H σ ρ2 ∧ J i ρ2) ⟨G1, ρ1, Ex.refl _, k1, i0⟩ (fun i σ H _ ⟨G2, ρ2, e2, k2, p2⟩ => sq_up (e2.trans k2.gh) hq) (fun i x σ H hi ⟨G2, ρ2, e2, k2, p2⟩ => by
        obtain ⟨y, hy, ry⟩ := hs.get hi
        exact (is i y ρ2 hy p2).run k2 e1 e2 (ry.mono e2) hn hr fun _ _ h => h) (fun σ H ⟨G2, ρ2, e2, k2, p2⟩ => hn ρ2 σ G2 H (e1.trans e2) k2 (id ρ2 (by rw [← hs.length]; exact p2)))⟩
theorem sw_forL {g : TG} {K : PySem.W.Frag} (hK : K = Γ.K) (h : EW Γ te ρ fun d ρ1 => ∃ ds, d = .lst ds ∧ Turns Γ g ts Δ ds ρ1) : SW Γ (tFor (iList K te) g ts) ρ Δ := fun σ G H D k hn hr hb hc =>
  h σ G H _ k fun d ρ1 v G1 H1 e1 k1 r1 ⟨ds, e, J, i0, is, id⟩ => by
    subst e
    subst hK
    cases r1 with
    | @lst a xs _ hq hs =>
      exact ⟨a, rfl, ⟨xs, Evl.ex_l k1.gh hq⟩, for_list (xs := xs) (fun i σ H => ∃ G ρ2, Ex G1 G ∧ Ok Γ G H σ ρ2 ∧ J i ρ2) ⟨G1, ρ1, Ex.refl _, k1, i0⟩ (fun i σ H _ ⟨G2, ρ2, e2, k2, p2⟩ => Evl.ex_l (e2.trans k2.gh) hq) (fun i x σ H hi ⟨G2, ρ2, e2, k2, p2⟩ => by
        obtain ⟨y, hy, ry⟩ := hs.get hi
        exact (is i y ρ2 hy p2).run k2 e1 e2 (ry.mono e2) hn hr fun _ _ h => h) (fun σ H ⟨G2, ρ2, e2, k2, p2⟩ => hn ρ2 σ G2 H (e1.trans e2) k2 (id ρ2 (by rw [← hs.length]; exact p2)))⟩

/-! ### list comprehensions -/
abbrev Ctx.ext (Γ : Ctx) (c : Addr × HO) : Ctx := { Γ with X := c :: Γ.X }
def wipeE (ρ : Env) : List Nat → Env
  | [] => ρ
  | v :: vs => (wipeE ρ vs).set v none
theorem Ok.wipe1 {G H : Hp} {σ : St} (k : Ok Γ G H σ ρ) (i : Nat) : Ok Γ G H (σ.set i none) (ρ.set i none) := by
  have back : ∀ j c, own (σ.set i none) (ρ.set i none) j c → own σ ρ j c := fun j c ⟨p, es, q⟩ => by
    by_cases hj : j = i
    · subst hj
      have hlt : j < ρ.length := by
        have := (List.getElem?_eq_some_iff.mp q).1
        rwa [List.length_set] at this
      rw [List.getElem?_set_self hlt] at q
      cases q
    · rw [List.getElem?_set_ne (Ne.symm hj)] at p q
      exact ⟨p, es, q⟩
  refine ⟨k.gh, k.g0, k.nw, k.fr, k.dm, k.res, k.rg, by rw [List.length_set, List.length_set]; exact k.len, fun j b h => ?_, fun j l c h1 h2 => k.dj j l c (back j c h1) (back l c h2), k.cel, fun j c h => k.nx j c (back j c h)⟩
  by_cases hj : j = i
  · subst hj
    have hlt : j < ρ.length := by
      have := (List.getElem?_eq_some_iff.mp h).1
      rwa [List.length_set] at this
    rw [List.getElem?_set_self hlt] at h
    cases h
  · rw [List.getElem?_set_ne (Ne.symm hj)] at h ⊢
    exact k.var j b h
theorem Ok.wipe {G H : Hp} {σ : St} (k : Ok Γ G H σ ρ) : ∀ vs : List Nat, Ok Γ G H (L2.wipe σ vs) (wipeE ρ vs)
  | [] => k
  | v :: vs => (Ok.wipe k vs).wipe1 v
/-- a further cell that stands -/
theorem Ok.ext {G H : Hp} {σ : St} {p : Addr} {o : HO} (k : Ok Γ G H σ ρ) (h1 : H p = some o) (h2 : G p = none) (h3 : ¬ Γ.R.F p) (h4 : ∀ i, ¬ own σ ρ i p) : Ok (Γ.ext (p, o)) G H σ ρ :=
  ⟨k.gh, k.g0, k.nw, k.fr, k.dm, k.res, k.rg, k.len, k.var, k.dj, fun q hq => by
    rcases List.mem_cons.mp hq with rfl | hq
    · exact ⟨h1, h2, h3⟩
    · exact k.cel q hq, fun i a h q hq => by
    rcases List.mem_cons.mp hq with rfl | hq
    · exact fun e => h4 i (by rw [show p = a from e]; exact h)
    · exact k.nx i a h q hq⟩
theorem Ok.unext {G H : Hp} {σ : St} {c : Addr × HO} (k : Ok (Γ.ext c) G H σ ρ) : Ok Γ G H σ ρ :=
  ⟨k.gh, k.g0, k.nw, k.fr, k.dm, k.res, k.rg, k.len, k.var, k.dj, fun q hq => k.cel q (List.mem_cons_of_mem _ hq), fun i a h q hq => k.nx i a h q (List.mem_cons_of_mem _ hq)⟩
/-- the comprehension's own list among the cells -/
structure Acc (Γ : Ctx) (G0 G H : Hp) (σ : St) (ρ : Env) (p : Addr) (acc : List V) : Prop where
  ok : Ok Γ G H σ ρ
  e : Ex G0 G
  h : H p = some (.lst acc)
  g : G p = none
  f : ¬ Γ.R.F p
  n : ∀ i, ¬ own σ ρ i p
  x : ∀ q ∈ Γ.X, q.1 ≠ p
  z : Γ.H p = none
theorem Ok.touch {G H : Hp} {σ : St} {p : Addr} {o : HO} (k : Ok Γ G H σ ρ) (hg : G p = none) (hf : ¬ Γ.R.F p) (hn : ∀ i, ¬ own σ ρ i p) (hx : ∀ q ∈ Γ.X, q.1 ≠ p) (hz : Γ.H p = none) : Ok Γ G (upd H p o) σ ρ := by
  refine ⟨fun a u h => by rw [upd_ne fun e => by rw [e, hg] at h; cases h]; exact k.gh a u h, k.g0, k.nw, fun a u h1 h2 => by rw [upd_ne fun e => by rw [e, hz] at h2; cases h2]; exact k.fr a u h1 h2, fun a h => by rw [upd_ne fun e => h (by rw [e]; exact hz)]; exact k.dm a h,
    Γ.R.st H _ k.res fun a h => upd_ne fun e => hf (e ▸ h), k.rg, k.len, fun j b h => ?_, k.dj, fun q hq => ?_, k.nx⟩
  · obtain ⟨v, h1, h2⟩ := k.var j b h
    refine ⟨v, h1, ?_⟩
    cases b with
    | fz d => exact h2
    | ow es =>
      obtain ⟨c, ys, rfl, q1, q2, q3, q4, q5⟩ := h2
      have hc : c ≠ p := fun e => hn j (by rw [← e]; exact ⟨h1, es, h⟩)
      exact ⟨c, ys, rfl, by rw [upd_ne hc]; exact q1, q2, q3, q4, q5⟩
  · obtain ⟨h1, h2, h3⟩ := k.cel q hq
    exact ⟨by rw [upd_ne (hx q hq)]; exact h1, h2, h3⟩
theorem Acc.app {G0 G H : Hp} {σ : St} {p : Addr} {acc : List V} (A : Acc Γ G0 G H σ ρ p acc) (y : V) : Acc Γ G0 G (upd H p (.lst (acc ++ [y]))) σ ρ p (acc ++ [y]) :=
  ⟨A.ok.touch A.g A.f A.n A.x A.z, A.e, upd_same, A.g, A.f, A.n, A.x, A.z⟩
theorem Acc.new {G H : Hp} {σ : St} {p : Addr} (k : Ok Γ G H σ ρ) (hp : H p = none) : Acc Γ G G (upd H p (.lst [])) σ ρ p [] := by
  have r := br_new (vs := []) (ds := []) k hp .nil
  obtain ⟨⟨a, xs, e, h1, h2, h3, h4, h5⟩, hn⟩ := r
  cases e
  exact ⟨k.newO hp, Ex.refl G, upd_same, h3, h4, (hn _ rfl p rfl).1, (hn _ rfl p rfl).2, h5⟩
theorem wipe_get {σ : St} {i : Nat} : ∀ {vs : List Nat}, i ∉ vs → (L2.wipe σ vs)[i]? = σ[i]?
  | [], _ => rfl
  | v :: vs, h => by
    show ((L2.wipe σ vs).set v none)[i]? = _
    rw [List.getElem?_set_ne (fun e => h (by rw [e]; exact List.mem_cons_self))]
    exact wipe_get fun q => h (List.mem_cons_of_mem _ q)
theorem wipeE_get {i : Nat} : ∀ {vs : List Nat}, i ∉ vs → (wipeE ρ vs)[i]? = ρ[i]?
  | [], _ => rfl
  | v :: vs, h => by
    show ((wipeE ρ vs).set v none)[i]? = _
    rw [List.getElem?_set_ne (fun e => h (by rw [e]; exact List.mem_cons_self))]
    exact wipeE_get fun q => h (List.mem_cons_of_mem _ q)
theorem wipe_len {σ : St} : ∀ {vs : List Nat}, (L2.wipe σ vs).length = σ.length
  | [] => rfl
  | v :: vs => by
    show ((L2.wipe σ vs).set v none).length = _
    rw [List.length_set]
    exact wipe_len
theorem wipeE_len : ∀ {vs : List Nat}, (wipeE ρ vs).length = ρ.length
  | [] => rfl
  | v :: vs => by
    show ((wipeE ρ vs).set v none).length = _
    rw [List.length_set]
    exact wipeE_len
theorem wipe_in {σ : St} {i : Nat} (hi : i < σ.length) : ∀ {vs : List Nat}, i ∈ vs → (L2.wipe σ vs)[i]? = some none
  | v :: vs, h => by
    show ((L2.wipe σ vs).set v none)[i]? = _
    by_cases e : i = v
    · subst e
      rw [List.getElem?_set_self (by rw [wipe_len]; exact hi)]
    · rw [List.getElem?_set_ne (Ne.symm e)]
      exact wipe_in hi ((List.mem_cons.mp h).resolve_left e)
/-- a target's names are the block's own -/
def GW (g : TG) (vs : List Nat) : Prop := ∀ σ v H (Q : St → Hp → Prop), g v σ H Q → g v σ H fun σ2 H2 => L2.wipe σ2 vs = L2.wipe σ vs ∧ Q σ2 H2
theorem wipe_set {σ : St} {j : Nat} {o : Option V} {vs : List Nat} (hj : j ∈ vs) : L2.wipe (σ.set j o) vs = L2.wipe σ vs := by
  apply List.ext_getElem?
  intro i
  by_cases hi : i ∈ vs
  · by_cases hl : i < σ.length
    · rw [wipe_in (by rw [List.length_set]; exact hl) hi, wipe_in hl hi]
    · rw [List.getElem?_eq_none (by rw [wipe_len, List.length_set]; omega), List.getElem?_eq_none (by rw [wipe_len]; omega)]
  · rw [wipe_get hi, wipe_get hi, List.getElem?_set_ne fun e => hi (by rw [← e]; exact hj)]
theorem wipe_wipe {σ : St} {vs : List Nat} : L2.wipe (L2.wipe σ vs) vs = L2.wipe σ vs := by
  apply List.ext_getElem?
  intro i
  by_cases hi : i ∈ vs
  · by_cases hl : i < σ.length
    · rw [wipe_in (by rw [wipe_len]; exact hl) hi, wipe_in hl hi]
    · rw [List.getElem?_eq_none (by rw [wipe_len, wipe_len]; omega), List.getElem?_eq_none (by rw [wipe_len]; omega)]
  · rw [wipe_get hi]
theorem gw_name {j : Nat} {vs : List Nat} (hj : j ∈ vs) : GW (gName j) vs := fun σ v H Q q => ⟨wipe_set hj, q⟩
theorem gw_gN {vs : List Nat} : ∀ {is : List Nat}, (∀ i ∈ is, i ∈ vs) → ∀ ds σ H (Q : St → Hp → Prop), gN is ds σ H Q → gN is ds σ H fun σ2 H2 => L2.wipe σ2 vs = L2.wipe σ vs ∧ Q σ2 H2
  | [], _, ds, σ, H, Q, ⟨e, q⟩ => ⟨e, rfl, q⟩
  | i :: is, h, ds, σ, H, Q, ⟨v, r, e, q⟩ => ⟨v, r, e, by
      have z := gw_gN (fun j hj => h j (List.mem_cons_of_mem _ hj)) r (σ.set i (some v)) H Q q
      rw [wipe_set (h i List.mem_cons_self)] at z
      exact z⟩
theorem gw_tup {K : PySem.W.Frag} {is : List Nat} {n : Nat} {g : TGs} {vs : List Nat} (hg : g = gN is) (h : ∀ i ∈ is, i ∈ vs) : GW (gTup K n g) vs := fun σ v H Q ⟨a, xs, e1, e2, e3, q⟩ => ⟨a, xs, e1, e2, e3, by
  subst hg
  exact gw_gN h xs σ H Q q⟩
/-- back from a block -/
theorem Ok.back {G G' H H' : Hp} {σ σ2 : St} {ρ2 : Env} {vs : List Nat} (k : Ok Γ G H σ ρ) (k2 : Ok Γ G' H' σ2 ρ2) (e : Ex G G') (h1 : L2.wipe σ2 vs = L2.wipe σ vs) (h2 : wipeE ρ2 vs = wipeE ρ vs) (h3 : ∀ j ∈ vs, ∀ ds, ρ[j]? ≠ some (some (.ow ds))) : Ok Γ G' H' σ ρ := by
  have hs : ∀ i, i ∉ vs → σ2[i]? = σ[i]? := fun i hi => by
    have z : (L2.wipe σ2 vs)[i]? = (L2.wipe σ vs)[i]? := by rw [h1]
    rw [wipe_get hi, wipe_get hi] at z
    exact z
  have hr : ∀ i, i ∉ vs → ρ2[i]? = ρ[i]? := fun i hi => by
    have z : (wipeE ρ2 vs)[i]? = (wipeE ρ vs)[i]? := by rw [h2]
    rw [wipeE_get hi, wipeE_get hi] at z
    exact z
  have back : ∀ i a, own σ ρ i a → own σ2 ρ2 i a := fun i a ⟨p, ds, q⟩ => by
    have hi : i ∉ vs := fun hi => h3 i hi ds q
    exact ⟨by rw [hs i hi]; exact p, ds, by rw [hr i hi]; exact q⟩
  refine ⟨k2.gh, k2.g0, k2.nw, k2.fr, k2.dm, k2.res, k2.rg, k.len, fun i b h => ?_, fun i j a h1 h2 => k2.dj i j a (back i a h1) (back j a h2), k2.cel, fun i a h => k2.nx i a (back i a h)⟩
  by_cases hi : i ∈ vs
  · obtain ⟨v, g1, g2⟩ := k.var i b h
    refine ⟨v, g1, ?_⟩
    cases b with
    | fz d => exact Rep.mono e g2
    | ow ds => exact absurd h (h3 i hi ds)
  · obtain ⟨v, g1, g2⟩ := k2.var i b (by rw [hr i hi]; exact h)
    exact ⟨v, by rw [← hs i hi]; exact g1, g2⟩
/-- one turn of a comprehension -/
def Comp1 (Γ : Ctx) (g : TG) (vs : List Nat) (tt : TT) (te : TE) (ρ : Env) (x : D) (yes : D → Prop) (no : Prop) : Prop :=
  ∃ ρ2, GD Γ g x (wipeE ρ vs) ρ2 ∧ wipeE ρ2 vs = wipeE ρ vs ∧ TW Γ tt ρ2 fun b ρ3 => ρ3 = ρ2 ∧ (b = true → EW Γ te ρ2 fun y ρ4 => ρ4 = ρ2 ∧ yes y) ∧ (b = false → no)
theorem Comp1.run {g : TG} {vs : List Nat} {x : D} {G0 G H : Hp} {σ : St} {p : Addr} {acc : List V} {ds : List D} {v : V} {J : List D → Prop} {Nx : Hp → Prop}
    (c : ∀ c, Comp1 (Γ.ext c) g vs tt te ρ x (fun y => J (ds ++ [y])) (J ds)) (gw : GW g vs) (hv : ∀ j ∈ vs, ∀ ds, ρ[j]? ≠ some (some (.ow ds))) (A : Acc Γ G0 G H σ ρ p acc) (ra : RepL Γ.K G acc ds) (rx : Rep Γ.K G v x) (hl : acc.length < 100000)
    (hN : ∀ H', (∃ G' acc' ds', Acc Γ G0 G' H' σ ρ p acc' ∧ RepL Γ.K G' acc' ds' ∧ J ds' ∧ acc'.length ≤ acc.length + 1) → Nx H') :
    g v (L2.wipe σ vs) H fun σ2 H2 => L2.wipe σ2 vs = L2.wipe σ vs ∧ tt σ2 H2 fun b H3 => if b = true then te σ2 H3 fun y H4 => ∃ acc, H4 p = some (.lst acc) ∧ acc.length < sizeLine ∧ Nx (upd H4 p (.lst (acc ++ [y]))) else Nx H3 := by
  obtain ⟨ρ2, g2, w2, t2⟩ := c (p, .lst acc)
  have kE : Ok (Γ.ext (p, .lst acc)) G H σ ρ := A.ok.ext A.h A.g A.f A.n
  have kW := kE.wipe vs
  have fin : ∀ {G' H' : Hp} {σ2 : St}, L2.wipe σ2 vs = L2.wipe σ vs → Ok (Γ.ext (p, .lst acc)) G' H' σ2 ρ2 → Ex G G' → Acc Γ G0 G' H' σ ρ p acc := fun {G' H' σ2} hw k e => by
    have kb : Ok (Γ.ext (p, .lst acc)) G' H' σ ρ := kE.back k e hw w2 hv
    obtain ⟨c1, c2, c3⟩ := kb.cel _ List.mem_cons_self
    exact ⟨kb.unext, A.e.trans e, c1, c2, c3, A.n, A.x, A.z⟩
  have z := g2 (L2.wipe σ vs) G H v (fun σ2 H2 => L2.wipe σ2 vs = L2.wipe σ vs → tt σ2 H2 fun b H3 => if b = true then te σ2 H3 fun y H4 => ∃ acc, H4 p = some (.lst acc) ∧ acc.length < sizeLine ∧ Nx (upd H4 p (.lst (acc ++ [y]))) else Nx H3) kW rx fun σ2 k2 hw =>
    t2 σ2 G H _ k2 fun b ρ3 G3 H3 e3 k3 ⟨er, py, pn⟩ => by
      subst er
      cases b with
      | true => exact iteT (py rfl σ2 G3 H3 _ k3 fun y ρ4 w G4 H4 e4 k4 r4 ⟨er, j⟩ => by
          subst er
          have A4 := fin hw k4 (e3.trans e4)
          exact ⟨acc, A4.h, Evl.sz_lt hl, hN _ ⟨G4, _, _, A4.app w, (ra.mono (e3.trans e4)).append (.cons r4 .nil), j, by rw [List.length_append]; exact Nat.le_refl _⟩⟩)
      | false => exact iteF (hN _ ⟨G3, _, _, fin hw k3 e3, ra.mono e3, pn rfl, Nat.le_succ _⟩)
  have z2 := gw _ _ _ _ z
  refine cast ?_ z2
  congr 1
  funext σ2 H2
  rw [wipe_wipe]
  exact propext ⟨fun h => ⟨h.1, h.2 h.1⟩, fun h => ⟨h.1, fun _ => h.2⟩⟩
/-- what a comprehension over a sequence asks -/
def Comp (Γ : Ctx) (g : TG) (vs : List Nat) (tt : TT) (te : TE) (ds : List D) (ρ1 : Env) (Ψ : B → Env → Prop) : Prop := GW g vs ∧ (∀ j ∈ vs, ∀ es, ρ1[j]? ≠ some (some (.ow es))) ∧ ds.length ≤ 99999 ∧
  ∃ J : Nat → List D → Prop, J 0 [] ∧ (∀ i x acc c, ds[i]? = some x → J i acc → Comp1 (Γ.ext c) g vs tt te ρ1 x (fun y => J (i + 1) (acc ++ [y])) (J (i + 1) acc)) ∧ ∀ acc, J ds.length acc → Ψ (.ow (.lst acc)) ρ1
theorem acc_br {G0 G H : Hp} {σ : St} {p : Addr} {acc : List V} {ds : List D} (A : Acc Γ G0 G H σ ρ p acc) (r : RepL Γ.K G acc ds) : BR Γ G H σ ρ (.ref p) (.ow (.lst ds)) :=
  ⟨⟨p, .lst acc, rfl, A.h, .lst r, A.g, A.f, A.z⟩, fun es _ a e => by
    cases e
    exact ⟨A.n, A.x⟩⟩
theorem eb_lcT {K : PySem.W.Frag} {g : TG} {vs : List Nat} {te0 : TE} (hK : K = Γ.K) (h : EW Γ te0 ρ fun d ρ1 => ∃ ds, d = .tup ds ∧ Comp Γ g vs tt te ds ρ1 Ψ) : EB Γ (tLc (iTup K te0) g tt te vs) ρ Ψ := fun σ G H Q k q =>
  h σ G H _ k fun d ρ1 v G1 H1 e1 k1 r1 ⟨ds, e, gw, hv, hl, J, j0, js, jd⟩ => by
    subst e
    subst hK
    cases r1 with
    | @tup a xs _ hq hs =>
      exact ⟨a, rfl, ⟨xs, sq_up k1.gh hq⟩, fun p hp => lc_tup (xs := xs) (fun i H => ∃ G acc ds, Acc Γ G1 G H σ ρ1 p acc ∧ RepL Γ.K G acc ds ∧ J i ds ∧ acc.length ≤ i) ⟨G1, [], [], Acc.new k1 hp, .nil, j0, Nat.le_refl _⟩ (fun i H _ ⟨G2, acc, es, A, _⟩ => sq_up (A.e.trans A.ok.gh) hq)
        (fun i x H hi ⟨G2, acc, es, A, ra, j, la⟩ => by
          obtain ⟨y, hy, ry⟩ := hs.get hi
          have hlt : i < ds.length := (List.getElem?_eq_some_iff.mp hy).1
          exact Comp1.run (fun c => js i y es c hy j) gw hv A ra (ry.mono A.e) (by omega) fun H' ⟨G', acc', ds', A', r', j', l'⟩ => ⟨G', acc', ds', A', r', j', by omega⟩)
        (fun H ⟨G2, acc, es, A, ra, j, la⟩ => q _ ρ1 _ G2 H (e1.trans A.e) A.ok (acc_br A ra) (jd es (by rw [← hs.length]; exact j)))⟩
theorem eb_lcL {K : PySem.W.Frag} {g : TG} {vs : List Nat} {te0 : TE} (hK : K = Γ.K) (h : EW Γ te0 ρ fun d ρ1 => ∃ ds, d = .lst ds ∧ Comp Γ g vs tt te ds ρ1 Ψ) : EB Γ (tLc (iList K te0) g tt te vs) ρ Ψ := fun σ G H Q k q =>
  h σ G H _ k fun d ρ1 v G1 H1 e1 k1 r1 ⟨ds, e, gw, hv, hl, J, j0, js, jd⟩ => by
    subst e
    subst hK
    cases r1 with
    | @lst a xs _ hq hs =>
      exact ⟨a, rfl, ⟨xs, Evl.ex_l k1.gh hq⟩, fun p hp => lc_list (xs := xs) (fun i H => ∃ G acc ds, Acc Γ G1 G H σ ρ1 p acc ∧ RepL Γ.K G acc ds ∧ J i ds ∧ acc.length ≤ i) ⟨G1, [], [], Acc.new k1 hp, .nil, j0, Nat.le_refl _⟩ (fun i H _ ⟨G2, acc, es, A, _⟩ => Evl.ex_l (A.e.trans A.ok.gh) hq)
        (fun i x H hi ⟨G2, acc, es, A, ra, j, la⟩ => by
          obtain ⟨y, hy, ry⟩ := hs.get hi
          have hlt : i < ds.length := (List.getElem?_eq_some_iff.mp hy).1
          exact Comp1.run (fun c => js i y es c hy j) gw hv A ra (ry.mono A.e) (by omega) fun H' ⟨G', acc', ds', A', r', j', l'⟩ => ⟨G', acc', ds', A', r', j', by omega⟩)
        (fun H ⟨G2, acc, es, A, ra, j, la⟩ => q _ ρ1 _ G2 H (e1.trans A.e) A.ok (acc_br A ra) (jd es (by rw [← hs.length]; exact j)))⟩
def rngD (n : Nat) : List D := (List.range n).map fun (i : Nat) => D.int (i : Int)
theorem rngD_get {n i : Nat} (h : i < n) : (rngD n)[i]? = some (.int (i : Int)) := by
  unfold rngD
  rw [List.getElem?_map, List.getElem?_range h]
  rfl
theorem rngD_len {n : Nat} : (rngD n).length = n := by
  unfold rngD
  rw [List.length_map, List.length_range]
theorem eb_lcR {g : TG} {vs : List Nat} {ta : TA} (h : AW Γ ta ρ fun ds ρ1 => ∃ n : Int, ds = [.int n] ∧ -100 ≤ n ∧ Comp Γ g vs tt te (rngD n.toNat) ρ1 Ψ) : EB Γ (tLc (iRng1 ta) g tt te vs) ρ Ψ := fun σ G H Q k q =>
  h σ G H _ k fun d ρ1 v G1 H1 e1 k1 r1 ⟨n, e, bn, gw, hv, hl, J, j0, js, jd⟩ => by
    subst e
    rw [rngD_len] at hl jd
    cases r1 with
    | cons r r' => cases r' with
      | nil =>
        cases r
        exact ⟨n, rfl, by omega, by omega, fun p hp => lc_range (lo := 0) (n := n.toNat) (fun i H => ∃ G acc ds, Acc Γ G1 G H σ ρ1 p acc ∧ RepL Γ.K G acc ds ∧ J i ds ∧ acc.length ≤ i) ⟨G1, [], [], Acc.new k1 hp, .nil, j0, Nat.le_refl _⟩
          (fun i H hi ⟨G2, acc, es, A, ra, j, la⟩ => by
            rw [Int.zero_add]
            exact Comp1.run (fun c => js i _ es c (rngD_get hi) j) gw hv A ra (.int _) (by omega) fun H' ⟨G', acc', ds', A', r', j', l'⟩ => ⟨G', acc', ds', A', r', j', by omega⟩)
          (fun H ⟨G2, acc, es, A, ra, j, la⟩ => q _ ρ1 _ G2 H (e1.trans A.e) A.ok (acc_br A ra) (jd es j))⟩
theorem tw_yes (p : Θ true ρ) : TW Γ tYes ρ Θ := fun σ G H Q k q => q true ρ G H (Ex.refl G) k p

/-! ### built-ins by values -/
/-- a call of a built-in that makes nothing -/
def CbV (Γ : Ctx) (r : List V → Hp → VK → Prop) (ds : List D) (z : D) : Prop := ∀ G H vs (Q : VK), Ex G H → RepL Γ.K G vs ds → (∀ v, Rep Γ.K G v z → Q v H) → r vs H Q
theorem ew_cb {r : List V → Hp → VK → Prop} {ts : TA} (h : AW Γ ts ρ fun ds ρ1 => ∃ z, CbV Γ r ds z ∧ Φ z ρ1) : EW Γ (tCB r ts) ρ Φ := fun σ G H Q k q =>
  h σ G H _ k fun ds ρ1 vs G1 H1 e1 k1 r1 ⟨z, hz, p⟩ => hz G1 H1 vs Q k1.gh r1 fun v rv => q z ρ1 v G1 H1 e1 k1 rv p
theorem cbv_abs {i : Int} : CbV Γ (fun xs H Q => ∃ i, xs = [.int i] ∧ Q (.int (if i < 0 then -i else i)) H) [.int i] (.int (if i < 0 then -i else i)) := fun G H vs Q e r q => by
  cases r with
  | cons r r' => cases r' with
    | nil => cases r; exact ⟨i, rfl, q _ (.int _)⟩
theorem cbv_int {i : Int} : CbV Γ (fun xs H Q => (∃ i, xs = [.int i] ∧ Q (.int i) H) ∨ ∃ k, xs = [.bl k] ∧ Q (.int (if k then 1 else 0)) H) [.int i] (.int i) := fun G H vs Q e r q => by
  cases r with
  | cons r r' => cases r' with
    | nil => cases r; exact .inl ⟨i, rfl, q _ (.int _)⟩
theorem cbv_int2 {f : Int → Int → Int} {i j : Int} : CbV Γ (fun xs H Q => ∃ i j, xs = [.int i, .int j] ∧ Q (.int (f i j)) H) [.int i, .int j] (.int (f i j)) := fun G H vs Q e r q => by
  cases r with
  | cons r r' => cases r' with
    | cons r2 r' => cases r' with
      | nil => cases r; cases r2; exact ⟨i, j, rfl, q _ (.int _)⟩
theorem cbv_strI {i : Int} (h : i.natAbs.log2 < 1920) : CbV Γ (fun xs H Q => ∃ i, xs = [.int i] ∧ i.natAbs.log2 < 1920 ∧ Q (.str (toString i)) H) [.int i] (.str (toString i)) := fun G H vs Q e r q => by
  cases r with
  | cons r r' => cases r' with
    | nil => cases r; exact ⟨i, rfl, h, q _ (.str _)⟩
theorem seq_of {K : PySem.W.Frag} {G H : Hp} {a : Addr} {xs : List V} (e : Ex G H) (h : SqL K G a xs) : SqL K H a xs := Evl.ex_l e h
theorem cbv_lenT {K : PySem.W.Frag} {ds : List D} (hK : K = Γ.K) : CbV Γ (fun xs H Q => ∃ p ys, xs = [.ref p] ∧ (SqL K H p ys ∨ SqT K H p ys) ∧ Q (.int ys.length) H) [.tup ds] (.int ds.length) := fun G H vs Q e r q => by
  subst hK
  cases r with
  | cons r r' => cases r' with
    | nil => cases r with
      | @tup a xs _ h hs => exact ⟨a, xs, rfl, .inr (sq_up e h), q _ (by rw [hs.length]; exact .int _)⟩
theorem cbv_lenL {K : PySem.W.Frag} {ds : List D} (hK : K = Γ.K) : CbV Γ (fun xs H Q => ∃ p ys, xs = [.ref p] ∧ (SqL K H p ys ∨ SqT K H p ys) ∧ Q (.int ys.length) H) [.lst ds] (.int ds.length) := fun G H vs Q e r q => by
  subst hK
  cases r with
  | cons r r' => cases r' with
    | nil => cases r with
      | @lst a xs _ h hs => exact ⟨a, xs, rfl, .inl (seq_of e h), q _ (by rw [hs.length]; exact .int _)⟩
theorem cbv_all {K : PySem.W.Frag} {bs : List Bool} (hK : K = Γ.K) : CbV Γ (rAll K) [.lst (bs.map D.bl)] (.bl (bs.all id)) := fun G H vs Q e r q => by
  subst hK
  cases r with
  | cons r r' => cases r' with
    | nil => cases r with
      | @lst a xs _ h hs => exact ⟨a, bs, rfl, by rw [← hs.bls]; exact seq_of e h, q _ (.bl _)⟩
theorem cbv_any {K : PySem.W.Frag} {bs : List Bool} (hK : K = Γ.K) : CbV Γ (rAny K) [.lst (bs.map D.bl)] (.bl (bs.any id)) := fun G H vs Q e r q => by
  subst hK
  cases r with
  | cons r r' => cases r' with
    | nil => cases r with
      | @lst a xs _ h hs => exact ⟨a, bs, rfl, by rw [← hs.bls]; exact seq_of e h, q _ (.bl _)⟩
theorem cbv_sum {K : PySem.W.Frag} {ns : List Int} (hK : K = Γ.K) : CbV Γ (rSum K) [.lst (ns.map D.int)] (.int ns.sum) := fun G H vs Q e r q => by
  subst hK
  cases r with
  | cons r r' => cases r' with
    | nil => cases r with
      | @lst a xs _ h hs => exact ⟨a, ns, rfl, by rw [← hs.ints]; exact seq_of e h, q _ (.int _)⟩
/-! isinstance -/
def tyN : D → Option String
  | .non => some "NoneType"
  | .bl _ => some "bool"
  | .int _ => some "int"
  | .str _ => some "str"
  | .tup _ => some "tuple"
  | .lst _ => some "list"
  | _ => none
theorem tyX_of {K : PySem.W.Frag} {G H : Hp} {v : V} {d : D} {t : String} (e : Ex G H) (r : Rep K G v d) (h : tyN d = some t) : TyX K H v (.type t) := by
  cases r with
  | non => cases h; exact .base .non
  | bl b => cases h; exact .base (.bl b)
  | int i => cases h; exact .base (.int i)
  | str x => cases h; exact .base (.str x)
  | tup hq _ =>
    cases h
    rcases hq with hq | ⟨o, its, n, h1, h2, _⟩
    · rcases hq with hq | ⟨o, hq⟩
      · exact .base (.tup (e _ _ hq))
      · exact .fTuple (e _ _ hq)
    · exact .kTuple h1 h2
  | lst hq _ =>
    cases h
    rcases hq with hq | ⟨o, its, n, h1, h2, _⟩
    · rcases hq with hq | ⟨o, hq⟩
      · exact .base (.lst (e _ _ hq))
      · exact .base (.frz (e _ _ hq))
    · exact .kList h1 h2
  | obj _ _ => cases h
  | ptr a => cases h
  | err _ _ => cases h
  | dct _ _ => cases h
/-- isinstance(e, T) -/
theorem ew_isi {K : PySem.W.Frag} {n : String} (hK : K = Γ.K) (h : EW Γ te ρ fun d ρ1 => ∃ t b, tyN d = some t ∧ kitB t n = some b ∧ Φ (.bl b) ρ1) : EW Γ (tCB (rIsi K) (tCons te (tCons (tC (.ty n)) tNil))) ρ Φ := fun σ G H Q k q =>
  h σ G H _ k fun d ρ1 v G1 H1 e1 k1 r1 ⟨t, b, ht, hb, p⟩ => by
    subst hK
    exact ⟨v, .ty n, .type t, .type n, b, rfl, .ty n, tyX_of k1.gh r1 ht, kit_ty hb, q _ ρ1 _ G1 H1 e1 k1 (.bl _) p⟩
/-- of an object of an own class: by kitOne -/
structure ObjTy (K : PySem.W.Frag) (C : Addr) : Prop where
  cl : Cls K C
  ha : PySem.W.findIn K (.ref C) "__class__" = some (some (.builtin "object.__class__"))
  hn : PySem.W.specialIn K (.builtin "object.__class__") "__get__" = some (some (.builtin "getset_descriptor.__get__"))
  htk : PySem.W.takesIn K (.builtin "object.__class__") = some true
  hm : PySem.W.mroIn K C (.type "object") = some true
theorem ew_isiO {K : PySem.W.Frag} {n : String} (hK : K = Γ.K) (h : EW Γ te ρ fun d ρ1 => ∃ C fs b, d = .obj C fs ∧ ObjTy K C ∧ PySem.W.kitOne K (.ref C) (.type n) = some b ∧ Φ (.bl b) ρ1) : EW Γ (tCB (rIsi K) (tCons te (tCons (tC (.ty n)) tNil))) ρ Φ := fun σ G H Q k q =>
  h σ G H _ k fun d ρ1 v G1 H1 e1 k1 r1 ⟨C, fs, b, hd, T, hb, p⟩ => by
    subst hK
    subst hd
    cases r1 with
    | obj hq hs => exact ⟨_, .ty n, .ref C, .type n, b, rfl, .ty n, .base (.ins (k1.gh _ _ hq) T.cl T.ha T.hn T.htk T.hm), hb, q _ ρ1 _ G1 H1 e1 k1 (.bl _) p⟩
/-- isinstance(e, (T, U)) -/
theorem ew_isi2 {K : PySem.W.Frag} {n m : String} (hK : K = Γ.K) (h : EW Γ te ρ fun d ρ1 => ∃ t b c, tyN d = some t ∧ kitB t n = some b ∧ kitB t m = some c ∧ Φ (.bl (b || c)) ρ1) : EW Γ (tCB (rIsiT K) (tCons te (tCons (tTup (tCons (tC (.ty n)) (tCons (tC (.ty m)) tNil))) tNil))) ρ Φ := fun σ G H Q k q =>
  h σ G H _ k fun d ρ1 v G1 H1 e1 k1 r1 ⟨t, b, c, ht, hb, hc, p⟩ => by
    subst hK
    refine ⟨by show 2 ≤ sizeLine; decide, fun a ha => ?_⟩
    obtain ⟨k2, e2⟩ := k1.new (o := .tup [.ty n, .ty m]) ha
    refine ⟨v, a, [.ty n, .ty m], .type t, [.type n, .type m], b || c, rfl, upd_same, .cons (.ty n) (.cons (.ty m) .nil), tyX_of k2.gh (r1.mono e2) ht, ?_, q _ ρ1 _ _ _ (e1.trans e2) k2 (.bl _) p⟩
    refine kitAny_cons (kit_ty hb) (fun z => ?_) (fun z => by rw [z]; rfl)
    subst z
    exact kitAny_cons (kit_ty hc) (fun z => by rw [z]; exact kitAny_nil) (fun z => by rw [z]; rfl)
/-! subscripts -/
theorem opv_ixT {K : PySem.W.Frag} {ds : List D} {i : Int} {x : D} (hK : K = Γ.K) (h : atI ds i = some x) : OpV Γ (rIxT K) (.tup ds) (.int i) x := fun G H vx vy Q e hx hy q => by
  subst hK
  cases hy
  cases hx with
  | @tup a xs _ hq hs =>
    unfold atI at h
    cases hj : ixN ds.length i with
    | none =>
      rw [hj] at h
      cases h
    | some j =>
      rw [hj] at h
      obtain ⟨v, hv, rv⟩ := hs.getD (i := j) (d := x) h
      exact ⟨a, xs, i, v, rfl, rfl, sq_up e hq, by unfold atI; rw [hs.length, hj]; exact hv, q v rv⟩
theorem opv_ixL {K : PySem.W.Frag} {ds : List D} {i : Int} {x : D} (hK : K = Γ.K) (h : atI ds i = some x) : OpV Γ (rIxL K) (.lst ds) (.int i) x := fun G H vx vy Q e hx hy q => by
  subst hK
  cases hy
  cases hx with
  | @lst a xs _ hq hs =>
    unfold atI at h
    cases hj : ixN ds.length i with
    | none =>
      rw [hj] at h
      cases h
    | some j =>
      rw [hj] at h
      obtain ⟨v, hv, rv⟩ := hs.getD (i := j) (d := x) h
      exact ⟨a, xs, i, v, rfl, rfl, seq_of e hq, by unfold atI; rw [hs.length, hj]; exact hv, q v rv⟩
theorem at_nat {ds : List D} {j : Nat} {x : D} (h : ds[j]? = some x) : atI ds (j : Int) = some x := atI_nat h
/-- xs[e], xs a slot's own list -/
theorem ew_ixO {K : PySem.W.Frag} {l : Nat} {ds0 : List D} (hK : K = Γ.K) (h0 : ρ[l]? = some (some (.ow (.lst ds0)))) (h : EW Γ te ρ fun d ρ1 => ∃ i ds x, d = .int i ∧ ρ1[l]? = some (some (.ow (.lst ds))) ∧ atI ds i = some x ∧ Φ x ρ1) : EW Γ (tOp (rIxL K) (tVar l) te) ρ Φ := fun σ G H Q k q => by
  subst hK
  obtain ⟨v0, g0, _⟩ := k.var l _ h0
  refine ⟨v0, g0, ?_⟩
  refine h σ G H _ k fun d ρ1 v G1 H1 e1 k1 r1 ⟨i, ds, x, hd, hl, ha, p⟩ => ?_
  subst hd
  cases r1
  obtain ⟨a, xs, h1, g1, g2⟩ := k1.lst hl
  rw [g0] at h1
  cases h1
  unfold atI at ha
  cases hj : ixN ds.length i with
  | none =>
    rw [hj] at ha
    cases ha
  | some j =>
    rw [hj] at ha
    obtain ⟨v, hv, rv⟩ := g2.getD (i := j) (d := x) ha
    exact ⟨a, xs, i, v, rfl, rfl, SqL.of g1, by unfold atI; rw [g2.length, hj]; exact hv, q x ρ1 v G1 H1 e1 k1 rv p⟩
/-! a slot's own list -/
theorem ew_lenO {K : PySem.W.Frag} {l : Nat} {ds : List D} (hK : K = Γ.K) (h : ρ[l]? = some (some (.ow (.lst ds)))) (p : Φ (.int ds.length) ρ) : EW Γ (tCB (fun xs H Q => ∃ p ys, xs = [.ref p] ∧ (SqL K H p ys ∨ SqT K H p ys) ∧ Q (.int ys.length) H) (tCons (tVar l) tNil)) ρ Φ := fun σ G H Q k q => by
  subst hK
  obtain ⟨a, xs, h1, g1, g2⟩ := k.lst h
  exact ⟨_, h1, a, xs, rfl, .inl (SqL.of g1), by rw [g2.length]; exact q _ ρ _ G H (Ex.refl G) k (.int _) p⟩
/-- x.append(e) -/
theorem sw_app {K : PySem.W.Frag} {l : Nat} {ds0 : List D} (h0 : ρ[l]? = some (some (.ow (.lst ds0)))) (h : EW Γ te ρ fun d ρ1 => ∃ ds, ρ1[l]? = some (some (.ow (.lst ds))) ∧ ds.length < 100000 ∧ Δ.nx (ρ1.set l (some (.ow (.lst (ds ++ [d])))))) : SW Γ (tDrop (tBM K "list" rAppend (tVar l) (tCons te tNil))) ρ Δ := fun σ G H D k hn hr hb hc => by
  obtain ⟨a, xs, g0, g1, _⟩ := k.lst h0
  refine ⟨_, g0, .inl ⟨rfl, _, SqL.of g1⟩, ?_⟩
  refine h σ G H _ k fun d ρ1 v G1 H1 e1 k1 r1 ⟨ds, hl, hz, p⟩ => ?_
  obtain ⟨a', xs', h1, q1, q2⟩ := k1.lst hl
  rw [g0] at h1
  cases h1
  exact ⟨a, xs', v, rfl, rfl, q1, by rw [q2.length]; exact Evl.sz_lt hz, hn _ σ G1 _ e1 (k1.mut hl g0 (.lst (q2.append (.cons r1 .nil)))) p⟩
/-- x[i] = e -/
theorem sw_setO {l : Nat} {ti : TE} {ds0 : List D} (h0 : ρ[l]? = some (some (.ow (.lst ds0)))) (h : EW Γ te ρ fun d ρ1 => EW Γ ti ρ1 fun i ρ2 => ∃ n j ds, i = .int n ∧ ρ1[l]? = some (some (.ow (.lst ds0))) ∧ ρ2[l]? = some (some (.ow (.lst ds))) ∧ ixN ds.length n = some j ∧ Δ.nx (ρ2.set l (some (.ow (.lst (ds.set j d)))))) : SW Γ (tAsg te (gSub (tVar l) ti rSetL)) ρ Δ := fun σ G H D k hn hr hb hc => by
  obtain ⟨a, xs, g0, g1, _⟩ := k.lst h0
  refine h σ G H _ k fun d ρ1 v G1 H1 e1 k1 r1 h1 => ?_
  refine ⟨_, g0, ?_⟩
  refine h1 σ G1 H1 _ k1 fun i ρ2 vi G2 H2 e2 k2 r2 ⟨n, j, ds, hi, _, hl, hj, p⟩ => ?_
  subst hi
  cases r2
  obtain ⟨a', xs', h1, q1, q2⟩ := k2.lst hl
  rw [g0] at h1
  cases h1
  exact ⟨a, xs', n, j, rfl, rfl, q1, by rw [q2.length]; exact hj, hn _ σ G2 _ (e1.trans e2) (k2.mut hl g0 (.lst (RepL.set (r1.mono e2) j q2))) p⟩
theorem sw_aug {i : Nat} {f : Int → Int → Int} (h : ∃ a, ρ[i]? = some (some (.fz (.int a))) ∧ EW Γ te ρ fun d ρ1 => ∃ b, d = .int b ∧ Δ.nx (ρ1.set i (some (.fz (.int (f a b)))))) : SW Γ (tAug i te (ipI f)) ρ Δ := fun σ G H D k hn hr hb hc => by
  obtain ⟨a, ha, h⟩ := h
  obtain ⟨v0, g0, r0⟩ := k.var i _ ha
  refine ⟨v0, g0, ?_⟩
  have r0' : Rep Γ.K G v0 (.int a) := r0
  cases r0'
  refine h σ G H _ k fun d ρ1 v G1 H1 e1 k1 r1 ⟨b, hd, p⟩ => ?_
  subst hd
  cases r1
  exact ⟨a, b, rfl, rfl, hn _ _ G1 H1 e1 (k1.store (.fz (Rep.int _))) p⟩

/-! new objects of built-ins -/
/-- tuple(e), e a list that never changes any more -/
theorem ew_tupL {K : PySem.W.Frag} (hK : K = Γ.K) (h : EW Γ te ρ fun d ρ1 => ∃ ds, d = .lst ds ∧ Φ (.tup ds) ρ1) : EW Γ (tCB (fun xs H Q => ∃ p ys, xs = [.ref p] ∧ ((SqL K H p ys ∧ ∀ l, H l = none → Q (.ref l) (upd H l (.tup ys))) ∨ (SqT K H p ys ∧ Q (.ref p) H))) (tCons te tNil)) ρ Φ := fun σ G H Q k q =>
  h σ G H _ k fun d ρ1 v G1 H1 e1 k1 r1 ⟨ds, e, p⟩ => by
    subst hK
    subst e
    cases r1 with
    | @lst a xs _ hq hs =>
      refine ⟨a, xs, rfl, .inl ⟨seq_of k1.gh hq, fun l hl => ?_⟩⟩
      obtain ⟨k2, e2⟩ := k1.new (o := .tup xs) hl
      exact q _ ρ1 _ _ _ (e1.trans e2) k2 (.tup (SqT.of upd_same) (hs.mono e2)) p
theorem ew_tupT {K : PySem.W.Frag} (hK : K = Γ.K) (h : EW Γ te ρ fun d ρ1 => ∃ ds, d = .tup ds ∧ Φ (.tup ds) ρ1) : EW Γ (tCB (fun xs H Q => ∃ p ys, xs = [.ref p] ∧ ((SqL K H p ys ∧ ∀ l, H l = none → Q (.ref l) (upd H l (.tup ys))) ∨ (SqT K H p ys ∧ Q (.ref p) H))) (tCons te tNil)) ρ Φ := fun σ G H Q k q =>
  h σ G H _ k fun d ρ1 v G1 H1 e1 k1 r1 ⟨ds, e, p⟩ => by
    subst hK
    subst e
    cases r1 with
    | @tup a xs _ hq hs => exact ⟨a, xs, rfl, .inr ⟨sq_up k1.gh hq, q _ ρ1 _ _ _ e1 k1 (.tup hq hs) p⟩⟩
/-- tuple(x), x a slot's own list -/
theorem ew_tupO {K : PySem.W.Frag} {l : Nat} {ds : List D} (hK : K = Γ.K) (h : ρ[l]? = some (some (.ow (.lst ds)))) (p : Φ (.tup ds) ρ) : EW Γ (tCB (fun xs H Q => ∃ p ys, xs = [.ref p] ∧ ((SqL K H p ys ∧ ∀ l, H l = none → Q (.ref l) (upd H l (.tup ys))) ∨ (SqT K H p ys ∧ Q (.ref p) H))) (tCons (tVar l) tNil)) ρ Φ := fun σ G H Q k q => by
  subst hK
  obtain ⟨a, xs, h1, g1, g2⟩ := k.lst h
  refine ⟨_, h1, a, xs, rfl, .inl ⟨SqL.of g1, fun m hm => ?_⟩⟩
  obtain ⟨k2, e2⟩ := k.new (o := .tup xs) hm
  exact q _ ρ _ _ _ e2 k2 (.tup (SqT.of upd_same) (g2.mono e2)) p
/-- list(e) -/
theorem eb_listL {K : PySem.W.Frag} (hK : K = Γ.K) (h : EW Γ te ρ fun d ρ1 => ∃ ds, (d = .lst ds ∨ d = .tup ds) ∧ Ψ (.ow (.lst ds)) ρ1) : EB Γ (tCB (fun xs H Q => ∃ p ys, xs = [.ref p] ∧ (SqL K H p ys ∨ SqT K H p ys) ∧ ∀ l, H l = none → Q (.ref l) (upd H l (.lst ys))) (tCons te tNil)) ρ Ψ := fun σ G H Q k q =>
  h σ G H _ k fun d ρ1 v G1 H1 e1 k1 r1 ⟨ds, e, p⟩ => by
    subst hK
    rcases e with e | e
    · subst e
      cases r1 with
      | @lst a xs _ hq hs => exact ⟨a, xs, rfl, .inl (seq_of k1.gh hq), fun l hl => q _ ρ1 _ _ _ e1 (k1.newO hl) (br_new k1 hl hs) p⟩
    · subst e
      cases r1 with
      | @tup a xs _ hq hs => exact ⟨a, xs, rfl, .inr (sq_up k1.gh hq), fun l hl => q _ ρ1 _ _ _ e1 (k1.newO hl) (br_new k1 hl hs) p⟩
theorem eb_listO {K : PySem.W.Frag} {l : Nat} {ds : List D} (hK : K = Γ.K) (h : ρ[l]? = some (some (.ow (.lst ds)))) (p : Ψ (.ow (.lst ds)) ρ) : EB Γ (tCB (fun xs H Q => ∃ p ys, xs = [.ref p] ∧ (SqL K H p ys ∨ SqT K H p ys) ∧ ∀ l, H l = none → Q (.ref l) (upd H l (.lst ys))) (tCons (tVar l) tNil)) ρ Ψ := fun σ G H Q k q => by
  subst hK
  obtain ⟨a, xs, h1, g1, g2⟩ := k.lst h
  exact ⟨_, h1, a, xs, rfl, .inl (SqL.of g1), fun m hm => q _ ρ _ _ _ (Ex.refl G) (k.newO hm) (br_new k hm g2) p⟩

/-- xs + e, xs a slot's own list, e a new list -/
theorem eb_catO {l : Nat} {ds : List D} (h0 : ρ[l]? = some (some (.ow (.lst ds)))) (h : EB Γ tb ρ fun b ρ1 => ∃ es, b = .ow (.lst es) ∧ ρ1[l]? = some (some (.ow (.lst ds))) ∧ ds.length + es.length ≤ 100000 ∧ Ψ (.ow (.lst (ds ++ es))) ρ1) : EB Γ (tOp rCat (tVar l) tb) ρ Ψ := fun σ G H Q k q => by
  obtain ⟨v0, g0, _⟩ := k.var l _ h0
  refine ⟨v0, g0, ?_⟩
  refine h σ G H _ k fun b ρ1 v G1 H1 e1 k1 r1 ⟨es, hb, hl, hz, p⟩ => ?_
  subst hb
  obtain ⟨⟨c, o, rfl, f1, f2, _⟩, _⟩ := r1
  cases f2 with
  | @lst ys _ f2 =>
    obtain ⟨a, xs, h1, g1, g2⟩ := k1.lst hl
    rw [g0] at h1
    cases h1
    exact ⟨a, c, xs, ys, rfl, rfl, g1, f1, Evl.sz_of (by rw [g2.length, f2.length]; exact hz), fun m hm => q _ ρ1 _ _ _ e1 (k1.newO hm) (br_new k1 hm (g2.append f2)) p⟩
/-! ### exceptions -/
/-- what the one-field __init__ of an error's class does -/
def spInit (K : PySem.W.Frag) (C : Addr) (f : Str) : Sp := fun vs H Q _ => ∃ (a : Addr) (v : V), vs = [.ref a, v] ∧ H a = some (exo a C none) ∧ ∀ dx, H dx = none → dx ≠ a → Q .non (upd (upd H dx (exd dx [(f, v)])) a (exo a C (some dx)))
theorem body_init {K : PySem.W.Frag} {C : Addr} {f : Str} (T : OexC K C) (hno : PySem.W.findIn K (.ref C) f = some none) {vs : List V} {H : Hp} {Q : VK} {E : XK} {N : List Str} (hN : N.length = 2) (h : spInit K C f vs H Q E) : tOst K f (tVar 0) (tVar 1) { nx := fun _ H' => Q .non H', rt := Q } (L2.start N vs) H := by
  obtain ⟨a, v, rfl, ha, k⟩ := h
  match N, hN with
  | [_, _], _ => exact ⟨_, rfl, _, rfl, a, C, rfl, T, hno, .inl ⟨ha, k⟩⟩
theorem xc_of {G H H' : Hp} {σ : St} {dd : Addr} {f : Str} {v : V} (k : Ok Γ G H σ ρ) (h0 : H dd = none) (h : H' dd = some (.xd [(f, v)])) : XC Γ H' dd f v :=
  ⟨h, fun z => Γ.R.dom H dd k.res z h0, fun p hp e => (by
    obtain ⟨e1, _⟩ := k.cel p hp
    rw [e, h0] at e1
    cases e1), by
    cases e : Γ.H dd with
    | none => rfl
    | some u => exact absurd h0 (k.dm dd (by rw [e]; simp))⟩
/-- raise C(e) -/
theorem sw_raise {K : PySem.W.Frag} {C : Addr} {f : Str} {ts : TA} {W : WX} (hW : ∀ ρ1 d v dd σ' G' H', Ok Γ G' H' σ' ρ1 → XC Γ H' dd f v → Rep Γ.K G' v d → Δ.xr ρ1 C f d → W (.ref C) (some dd) σ' H') (h : AW Γ ts ρ fun ds ρ1 => ∃ d, ds = [d] ∧ Δ.xr ρ1 C f d) :
    SW Γ (fun _ σ H => tMkO C (spInit K C f) [] ts σ H fun cls d H' => W cls d σ H') ρ Δ := fun σ G H D k hn hr hb hc =>
  h σ G H _ k fun ds ρ1 vs G1 H1 e1 k1 r1 ⟨d, e, p⟩ => by
    subst e
    cases r1 with
    | @cons v _ _ _ rv r' =>
      cases r'
      refine ⟨by show 1 ≤ 1000; decide, fun a ha => ⟨a, _, rfl, upd_same, fun dx hdx hne => ?_⟩⟩
      have hd : H1 dx = none := by rw [upd_ne hne] at hdx; exact hdx
      refine ⟨rfl, dx, [(f, v)], upd_same, by rw [upd_ne hne]; exact upd_same, hd, ?_⟩
      have eH : upd (L2.del (upd (upd (upd H1 a (exo a C none)) dx (exd dx [(f, v)])) a (exo a C (some dx))) a) dx (.xd [(f, v)]) = upd H1 dx (.xd [(f, v)]) := by
        funext b
        by_cases e1 : b = dx
        · rw [e1, upd_same, upd_same]
        · rw [upd_ne e1, upd_ne e1]
          by_cases e2 : b = a
          · rw [e2, del_same, ha]
          · rw [del_ne e2, upd_ne e2, upd_ne e1, upd_ne e2]
      rw [eH]
      exact hW ρ1 d v dx σ G1 _ (k1.newO hd) (xc_of k1 hd upd_same) rv p
/-- .. out of the def -/
theorem sw_raiseE {K : PySem.W.Frag} {C : Addr} {f : Str} {ts : TA} {E : XK} {Ξ : Addr → Str → D → Prop} (ke : KE Γ Ξ E) (hx : ∀ ρ1 C f d, Δ.xr ρ1 C f d → Ξ C f d) (h : AW Γ ts ρ fun ds ρ1 => ∃ d, ds = [d] ∧ Δ.xr ρ1 C f d) :
    SW Γ (fun _ σ H => tMkO C (spInit K C f) [] ts σ H fun cls d H' => (fun (cls : Value) (d : Option Addr) (_ : St) (H : Hp) => E cls d H) cls d σ H') ρ Δ :=
  sw_raise (fun ρ1 d v dd σ' G' H' k x rv p => ke C f v d dd σ' ρ1 G' H' k x rv (hx ρ1 C f d p)) h
/-- a call whose exceptions go on out of the def -/
theorem eb_callXP {K : PySem.W.Frag} {C : Cn} {Fam : Rsc → Prop} {ts : TA} {E : XK} {Ξ : Addr → Str → D → Prop} (ke : KE Γ Ξ E) (hK : K = Γ.K) (hF : Fam Rsc.no) (h : AW Γ ts ρ fun ds ρ1 => C Γ.K 0 ds (fun b => Ψ b ρ1) Ξ) : EB Γ (tCall (SpD K Fam C) [] E ts) ρ Ψ := fun σ G H Q k q =>
  h σ G H _ k fun ds ρ1 vs G1 H1 e1 k1 r1 hc => by
    subst hK
    show SpD Γ.K Fam C (vs ++ []) H1 Q E
    rw [List.append_nil]
    refine ⟨Rsc.no, G1, ds, _, Ξ, hF, trivial, fun _ z => z.elim, k1.gh, r1, hc, fun b v G' H' a hb p => ?_, fun C f v d dd G' H' a hd h0 rv x => ?_⟩
    · have a' := Aft.no k1.res k1.rg k1.gh a
      refine q b ρ1 v G' H' (e1.trans a.gg) (k1.aft a') (br_of k1 ?_) p
      cases b with
      | fz d => exact hb
      | ow ds =>
        obtain ⟨c, xs, e, h1, h2, h3, h4, h5⟩ := hb
        exact ⟨c, xs, e, h1, h2, h3, fun z => Γ.R.dom H1 c k1.res z h5, h5⟩
    · exact ke C f v d dd σ ρ1 G' H' (k1.aft (Aft.no k1.res k1.rg k1.gh a)) (xc_of k1 h0 hd) rv x
/-- the wish of a body within a try -/
def WOk (Γ : Ctx) (W : WX) (Ξ : Env → Addr → Str → D → Prop) (G0 : Hp) : Prop := ∀ ρ1 C f d v dd σ' G' H', Ex G0 G' → Ok Γ G' H' σ' ρ1 → XC Γ H' dd f v → Rep Γ.K G' v d → Ξ ρ1 C f d → W (.ref C) (some dd) σ' H'
theorem eb_callS {C : Cn} {Fam : Rsc → Prop} {ts : TA} {W : WX} {Ξ : Env → Addr → Str → D → Prop} (hF : Fam Rsc.no) (h : AW Γ ts ρ fun ds ρ1 => C Γ.K 0 ds (fun b => Ψ b ρ1) (Ξ ρ1)) : ∀ σ G H (Q : VK), Ok Γ G H σ ρ → (∀ ρ1 C f d v dd G' H', Ex G G' → Ok Γ G' H' σ ρ1 → XC Γ H' dd f v → Rep Γ.K G' v d → Ξ ρ1 C f d → W (.ref C) (some dd) σ H') →
    (∀ b ρ' v G' H', Ex G G' → Ok Γ G' H' σ ρ' → BR Γ G' H' σ ρ' v b → Ψ b ρ' → Q v H') → tCallS (SpD Γ.K Fam C) (WE W) ts σ H Q := fun σ G H Q k w q =>
  h σ G H _ k fun ds ρ1 vs G1 H1 e1 k1 r1 hc => by
    refine ⟨Rsc.no, G1, ds, _, _, hF, trivial, fun _ z => z.elim, k1.gh, r1, hc, fun b v G' H' a hb p => ?_, fun C f v d dd G' H' a hd h0 rv x => ?_⟩
    · have a' := Aft.no k1.res k1.rg k1.gh a
      refine q b ρ1 v G' H' (e1.trans a.gg) (k1.aft a') (br_of k1 ?_) p
      cases b with
      | fz d => exact hb
      | ow ds =>
        obtain ⟨c, xs, e, h1, h2, h3, h4, h5⟩ := hb
        exact ⟨c, xs, e, h1, h2, h3, fun z => Γ.R.dom H1 c k1.res z h5, h5⟩
    · have a' := Aft.no k1.res k1.rg k1.gh a
      exact w ρ1 C f d v dd G' H' (e1.trans a.gg) (k1.aft a') (xc_of k1 h0 hd) rv x
/-- the body of a try: for any wish that holds what the clauses promise -/
def TryB (Γ : Ctx) (tb : WX → TS) (ρ : Env) (Δ : Fin) : Prop := ∀ W σ G H (D : Ends), Ok Γ G H σ ρ → WOk Γ W Δ.xr G →
  (∀ ρ' σ' G' H', Ex G G' → Ok Γ G' H' σ' ρ' → Δ.nx ρ' → D.nx σ' H') → (∀ b v σ' ρ' G' H', Ok Γ G' H' σ' ρ' → BR Γ G' H' σ' ρ' v b → Δ.rt b → D.rt v H') →
  (∀ ρ' σ' G' H', Ex G G' → Ok Γ G' H' σ' ρ' → Δ.bk ρ' → D.bk σ' H') → (∀ ρ' σ' G' H', Ex G G' → Ok Γ G' H' σ' ρ' → Δ.ct ρ' → D.ct σ' H') → tb W D σ H
theorem tryB_asg {K : PySem.W.Frag} {C : Cn} {Fam : Rsc → Prop} {ts : TA} {i : Nat} (hK : K = Γ.K) (hF : Fam Rsc.no) (h : AW Γ ts ρ fun ds ρ1 => C Γ.K 0 ds (fun b => Δ.nx (ρ1.set i (some b))) (Δ.xr ρ1)) : TryB Γ (fun W => tAsg (tCallS (SpD K Fam C) (WE W) ts) (gName i)) ρ Δ := by
  subst hK
  exact fun W σ G H D k w hn hr hb hc =>
   eb_callS (Ψ := fun b ρ1 => Δ.nx (ρ1.set i (some b))) (Ξ := Δ.xr) hF h σ G H _ k (fun ρ1 C f d v dd G' H' e k' hd rv x => w ρ1 C f d v dd σ G' H' e k' hd rv x) fun b ρ1 v G1 H1 e1 k1 r1 p => hn _ _ G1 H1 e1 (k1.store r1) p
theorem tryB_drop {K : PySem.W.Frag} {C : Cn} {Fam : Rsc → Prop} {ts : TA} (hK : K = Γ.K) (hF : Fam Rsc.no) (h : AW Γ ts ρ fun ds ρ1 => C Γ.K 0 ds (fun b => Δ.nx ρ1) (Δ.xr ρ1)) : TryB Γ (fun W => tDrop (tCallS (SpD K Fam C) (WE W) ts)) ρ Δ := by
  subst hK
  exact fun W σ G H D k w hn hr hb hc =>
   eb_callS (Ψ := fun b ρ1 => Δ.nx ρ1) (Ξ := Δ.xr) hF h σ G H _ k (fun ρ1 C f d v dd G' H' e k' hd rv x => w ρ1 C f d v dd σ G' H' e k' hd rv x) fun b ρ1 v G1 H1 e1 k1 r1 p => hn _ _ G1 H1 e1 k1 p
/-- try: tb; except c as (slot i): ts -/
theorem sw_try {K : PySem.W.Frag} {c : Value} {i : Nat} {tb : WX → TS} {tx : Addr → Value → Option Addr → TS} {Wout : WX} (Ξ : Env → Addr → Str → D → Prop) (hK : K = Γ.K) (hb : TryB Γ tb ρ { Δ with xr := Ξ })
    (hs : ∀ ρ1 C f d, Ξ ρ1 C f d → PySem.W.exmOne K (.ref C) c = some true ∧ ∀ a dd, SW Γ (tx a (.ref C) (some dd)) (ρ1.set i (some (.fz (.err a dd f d)))) { Δ with nx := fun ρ2 => Δ.nx (ρ2.set i none), bk := fun ρ2 => Δ.bk (ρ2.set i none), ct := fun ρ2 => Δ.ct (ρ2.set i none) }) :
    SW Γ (fun D σ H => tb (wAs K c i tx Wout D) D σ H) ρ Δ := fun σ G H D k hn hr hbk hc => by
  subst hK
  refine hb _ σ G H D k (fun ρ1 C f d v dd σ' G' H' e k' x rv xi => ?_) hn hr hbk hc
  obtain ⟨h1, h2⟩ := hs ρ1 C f d xi
  refine ⟨true, h1, fun _ a ha => ?_, fun z => Bool.noConfusion z⟩
  -- the exception's dict is frozen
  have key : ∃ G2, Ex G' G2 ∧ Ok Γ G2 H' σ' ρ1 ∧ G2 dd = some (.xd [(f, v)]) := by
    cases eg : G' dd with
    | some u =>
      have z := k'.gh _ _ eg
      rw [x.at_] at z
      cases z
      exact ⟨G', Ex.refl _, k', eg⟩
    | none =>
      have gg : Ex G' (upd G' dd (.xd [(f, v)])) := Ex.new eg
      refine ⟨_, gg, ⟨fun b o h => ?_, k'.g0.trans gg, fun b g1 g2 => ?_, k'.fr, k'.dm, k'.res, fun b h => by rw [upd_ne fun e => x.nf (by rw [← e]; exact h)]; exact k'.rg b h, k'.len, fun j b h => ?_, k'.dj, fun p hp => ?_, k'.nx⟩, upd_same⟩
      · by_cases e : b = dd
        · subst e
          rw [upd_same] at h
          cases h
          exact x.at_
        · rw [upd_ne e] at h
          exact k'.gh b o h
      · rw [upd_ne fun e => g2 (by rw [e]; exact x.nh)]
        exact k'.nw b g1 g2
      · obtain ⟨w, g1, g2⟩ := k'.var j b h
        refine ⟨w, g1, ?_⟩
        cases b with
        | fz d => exact Rep.mono gg g2
        | ow es =>
          obtain ⟨c, ys, rfl, q1, q2, q3, q4, q5⟩ := g2
          have hc : c ≠ dd := fun e => by rw [e, x.at_] at q1; cases q1; cases q2
          exact ⟨c, ys, rfl, q1, RepC.mono gg q2, by rw [upd_ne hc]; exact q3, q4, q5⟩
      · obtain ⟨e1, e2, e3⟩ := k'.cel p hp
        exact ⟨e1, by rw [upd_ne (x.nx p hp)]; exact e2, e3⟩
  obtain ⟨G2, e2, k2, hg⟩ := key
  have un : ∀ {ρ2 : Env} {σ2 : St} {G3 H3 : Hp}, Ok Γ G3 H3 σ2 ρ2 → Ok Γ G3 H3 (σ2.set i none) (ρ2.set i none) := fun k => k.wipe1 i
  exact h2 a dd _ G2 H' _ (k2.store (.fz (Rep.err hg (rv.mono e2)))) (fun ρ' σ' G' H' e' k' p => hn _ _ G' H' ((e.trans e2).trans e') (un k') p) hr (fun ρ' σ' G' H' e' k' p => hbk _ _ G' H' ((e.trans e2).trans e') (un k') p) (fun ρ' σ' G' H' e' k' p => hc _ _ G' H' ((e.trans e2).trans e') (un k') p)
/-- e.f of the caught exception -/
theorem ew_xf {a dd : Addr} {C : Addr} {f : Str} (h : EW Γ te ρ fun x ρ1 => ∃ d, x = .err a dd f d ∧ Φ d ρ1) : EW Γ (tXf a (.ref C) (some dd) C f te) ρ Φ := fun σ G H Q k q =>
  h σ G H _ k fun x ρ1 v G1 H1 e1 k1 r1 ⟨d, e, p⟩ => by
    subst e
    cases r1 with
    | err hg hs => exact ⟨rfl, rfl, dd, _, _, rfl, k1.gh _ _ hg, by rw [look_put, if_pos rfl], q d ρ1 _ G1 H1 e1 k1 hs p⟩
/-- a call with keywords -/
theorem eb_callKP {K : PySem.W.Frag} {C : Cn} {Fam : Rsc → Prop} {ts tk : TA} {E : XK} {gV : List V → List V → List V} {gD : List D → List D → List D} (hK : K = Γ.K) (hF : Fam Rsc.no) (hg : ∀ {G vs ws ds es}, RepL Γ.K G vs ds → RepL Γ.K G ws es → RepL Γ.K G (gV vs ws) (gD ds es)) (h : AW Γ ts ρ fun ds ρ1 => AW Γ tk ρ1 fun es ρ2 => C Γ.K 0 (gD ds es) (fun b => Ψ b ρ2) NoX) : EB Γ (tCallK (SpD K Fam C) gV E ts tk) ρ Ψ := fun σ G H Q k q =>
  h σ G H _ k fun ds ρ0 vs G0 H0 e0 k0 r0 h1 => h1 σ G0 H0 _ k0 fun es ρ1 ws G1 H1 e1 k1 r1 hc => by
    subst hK
    refine ⟨Rsc.no, G1, _, _, NoX, hF, trivial, fun _ z => z.elim, k1.gh, hg (r0.mono e1) r1, hc, fun b v G' H' a hb p => ?_, fun _ _ _ _ _ _ _ _ _ _ _ z => z.elim⟩
    have a' := Aft.no k1.res k1.rg k1.gh a
    refine q b ρ1 v G' H' ((e0.trans e1).trans a.gg) (k1.aft a') (br_of k1 ?_) p
    cases b with
    | fz d => exact hb
    | ow ds =>
      obtain ⟨c, xs, e, h1, h2, h3, h4, h5⟩ := hb
      exact ⟨c, xs, e, h1, h2, h3, fun z => Γ.R.dom H1 c k1.res z h5, h5⟩

/-! ### truth -/
def truD : D → Option Bool
  | .non => some false
  | .bl b => some b
  | .int i => some (i != 0)
  | .tup ds => some (!ds.isEmpty)
  | .lst ds => some (!ds.isEmpty)
  | _ => none
theorem isE_of {K : PySem.W.Frag} {G : Hp} {xs : List V} {ds : List D} (h : RepL K G xs ds) : xs.isEmpty = ds.isEmpty := by
  cases h <;> rfl
theorem tw_tru {K : PySem.W.Frag} (hK : K = Γ.K) (h : EW Γ ta ρ fun d ρ1 => ∃ b, truD d = some b ∧ Θ b ρ1) : TW Γ (fun σ H Q => ta σ H fun x H' => ∃ k, TruV K x H' k ∧ Q k H') ρ Θ := fun σ G H Q k q =>
  h σ G H _ k fun d ρ1 v G1 H1 e1 k1 r1 ⟨b, hb, p⟩ => by
    subst hK
    refine ⟨b, ?_, q b ρ1 G1 H1 e1 k1 p⟩
    cases r1 with
    | non => cases hb; exact rfl
    | bl c => cases hb; exact rfl
    | int i => cases hb; exact rfl
    | str x => cases hb
    | tup hq hs => cases hb; exact .inr (.inl ⟨_, sq_up k1.gh hq, by rw [isE_of hs]⟩)
    | lst hq hs => cases hb; exact .inl ⟨_, seq_of k1.gh hq, by rw [isE_of hs]⟩
    | obj _ _ => cases hb
    | ptr a => cases hb
    | err _ _ => cases hb
    | dct _ _ => cases hb
/-- x.isEmpty of a slot's own list -/
theorem tw_truO {K : PySem.W.Frag} {l : Nat} {ds : List D} (hK : K = Γ.K) (h : ρ[l]? = some (some (.ow (.lst ds)))) (p : Θ (!ds.isEmpty) ρ) : TW Γ (fun σ H Q => tVar l σ H fun x H' => ∃ k, TruV K x H' k ∧ Q k H') ρ Θ := fun σ G H Q k q => by
  subst hK
  obtain ⟨a, xs, h1, g1, g2⟩ := k.lst h
  exact ⟨_, h1, _, .inl ⟨xs, SqL.of g1, rfl⟩, q _ ρ G H (Ex.refl G) k (by rw [isE_of g2]; exact p)⟩
theorem spd_len {K : PySem.W.Frag} {Fam : Rsc → Prop} {C : Cn} {n : Nat} {vs : List V} {H : Hp} {Q : VK} {E : XK} (hl : ∀ K w ds Ψ Ξ, C K w ds Ψ Ξ → ds.length = n) (h : SpD K Fam C vs H Q E) : vs.length = n := by
  obtain ⟨R, G, ds, Ψ, Ξ, _, _, _, _, r, c, _⟩ := h
  rw [r.length]
  exact hl _ _ _ _ _ c
/-- one of two promises -/
def COr (C1 C2 : Cn) : Cn := fun K w ds Ψ Ξ => C1 K w ds Ψ Ξ ∨ C2 K w ds Ψ Ξ
theorem spd_or {K : PySem.W.Frag} {Fam : Rsc → Prop} {C1 C2 : Cn} {vs : List V} {H : Hp} {Q : VK} {E : XK} (h : SpD K Fam (COr C1 C2) vs H Q E) : SpD K Fam C1 vs H Q E ∨ SpD K Fam C2 vs H Q E := by
  obtain ⟨R, G, ds, Ψ, Ξ, h1, h2, h3, h4, h5, h6 | h6, h7, h8⟩ := h
  · exact .inl ⟨R, G, ds, Ψ, Ξ, h1, h2, h3, h4, h5, h6, h7, h8⟩
  · exact .inr ⟨R, G, ds, Ψ, Ξ, h1, h2, h3, h4, h5, h6, h7, h8⟩
abbrev AnyR : Rsc → Prop := fun _ => True
/-! a // b for any b but 0 -/
def CFd (i j : Int) : Prop := j ≠ 0 ∧ j.natAbs.log2 < 9000
theorem op_fdivG {X : Cx} : OpR X (binaryOp .FloorDiv) (rI CFd fun i j => .int (i.fdiv j)) := opI fun i j _ _ _ _ _ hc q => PyProof.Rows.floordiv_int hc.1 q (.inl (PyProof.noPylong_of_log2 hc.2))
theorem cfd_of {i j : Int} {n : Nat} (h : j ≠ 0) (hb : j.natAbs < 2 ^ n) (hn : n ≤ 8999) : CFd i j := ⟨h, Nat.lt_of_lt_of_le (PySem.Flt.log2_lt_of (by
  by_cases h0 : n = 0
  · subst h0
    exfalso
    have : j.natAbs < 1 := hb
    omega
  · omega) hb) (by omega)⟩
/-! == of data -/
mutual
inductive Py : D → PyData → Prop
  | non : Py .non .none
  | bl (b : Bool) : Py (.bl b) (.bool b)
  | int (i : Int) : Py (.int i) (.int i)
  | str (x : Str) : Py (.str x) (.str x)
  | tup {ds : List D} {es : List PyData} (h : PyL ds es) : Py (.tup ds) (.tuple es)
  | lst {ds : List D} {es : List PyData} (h : PyL ds es) : Py (.lst ds) (.list es)
inductive PyL : List D → List PyData → Prop
  | nil : PyL [] []
  | cons {d : D} {e : PyData} {ds : List D} {es : List PyData} (h : Py d e) (hs : PyL ds es) : PyL (d :: ds) (e :: es)
end
mutual
theorem dp_of {K : PySem.W.Frag} {G H : Hp} (x : Ex G H) : ∀ {v : V} {d : D} {e : PyData}, Rep K G v d → Py d e → Dp K H v e
  | _, _, _, .non, .non => .non
  | _, _, _, .bl b, .bl _ => .bl b
  | _, _, _, .int i, .int _ => .int i
  | _, _, _, .str s, .str _ => .str s
  | _, _, _, .tup h hs, .tup p => .tup (sq_up x h) (dpAll_of x hs p)
  | _, _, _, .lst h hs, .lst p => .lst (seq_of x h) (dpAll_of x hs p)
theorem dpAll_of {K : PySem.W.Frag} {G H : Hp} (x : Ex G H) : ∀ {vs : List V} {ds : List D} {es : List PyData}, RepL K G vs ds → PyL ds es → DpAll K H vs es
  | _, _, _, .nil, .nil => .nil
  | _, _, _, .cons h hs, .cons p ps => .cons (dp_of x h p) (dpAll_of x hs ps)
end
theorem opv_eqD {K : PySem.W.Frag} {x y : D} {d e : PyData} (hK : K = Γ.K) (hx : Py x d) (hy : Py y e) (h1 : SeqAt.shaped d = true) (h2 : SeqAt.shaped e = true) : OpV Γ (rEqD K) x y (.bl (PyData.eqv d e)) := fun G H vx vy Q ex rx ry q => by
  subst hK
  exact ⟨d, e, dp_of ex rx hx, dp_of ex ry hy, h1, h2, q _ (.bl _)⟩

/-! ### objects of own classes -/
def putD (f : Str) (v : D) : List (Str × D) → List (Str × D)
  | [] => [(f, v)]
  | (g, x) :: r => if g = f then (g, v) :: r else (g, x) :: putD f v r
theorem RepF.put {K : PySem.W.Frag} {G : Hp} {f : Str} {v : V} {d : D} (r : Rep K G v d) : ∀ {gs : List (Str × V)} {fs : List (Str × D)}, RepF K G gs fs → RepF K G (putF f v gs) (putD f d fs)
  | _, _, .nil => .cons r .nil
  | _, _, .cons (f := g) h hs => by
    unfold putF putD
    by_cases e : g = f
    · rw [if_pos e, if_pos e]
      exact .cons r hs
    · rw [if_neg e, if_neg e]
      exact .cons h (RepF.put r hs)
theorem RepF.length {K : PySem.W.Frag} {G : Hp} : ∀ {gs : List (Str × V)} {fs : List (Str × D)}, RepF K G gs fs → gs.length = fs.length
  | _, _, .nil => rfl
  | _, _, .cons _ hs => congrArg (· + 1) (RepF.length hs)
/-- e.f -/
theorem ew_fld {K : PySem.W.Frag} {f : Str} (hK : K = Γ.K) (h : EW Γ ta ρ fun d ρ1 => ∃ C fs x, d = .obj C fs ∧ Cls Γ.K C ∧ NoAttr Γ.K C f ∧ fs.lookup f = some x ∧ Φ x ρ1) : EW Γ (tFld K ta f) ρ Φ := fun σ G H Q k q =>
  h σ G H _ k fun d ρ1 v G1 H1 e1 k1 r1 ⟨C, fs, x, hd, h1, h2, h3, p⟩ => by
    subst hK
    subst hd
    cases r1 with
    | obj hq hs =>
      obtain ⟨y, hy, ry⟩ := hs.look h3
      exact ⟨_, C, _, _, y, rfl, k1.gh _ _ hq, h1, h2, hy, q x ρ1 y G1 H1 e1 k1 ry p⟩
/-- x.f = e, x an object that the slot alone holds -/
theorem sw_fld {K : PySem.W.Frag} {f : Str} {i : Nat} {c0 : Ct} (hK : K = Γ.K) (h0 : ρ[i]? = some (some (.ow c0))) (h : EW Γ te ρ fun d ρ1 => ∃ C fs, ρ1[i]? = some (some (.ow (.obj C fs))) ∧ Cls Γ.K C ∧ NoAttr Γ.K C f ∧ fs.length < 1000 ∧ Δ.nx (ρ1.set i (some (.ow (.obj C (putD f d fs)))))) : SW Γ (sFld K (tVar i) te f) ρ Δ := fun σ G H D k hn hr hb hc => by
  subst hK
  refine h σ G H _ k fun d ρ1 v G1 H1 e1 k1 r1 ⟨C, fs, hi, h1, h2, h3, p⟩ => ?_
  obtain ⟨v1, g1, a, o, rfl, g2, g3, _⟩ := k1.var i _ hi
  cases g3 with
  | @obj _ dx gs _ g3 => exact ⟨_, g1, a, C, dx, gs, rfl, g2, h1, h2, by rw [g3.length]; exact h3, hn _ σ G1 _ e1 (k1.mut hi g1 (.obj (g3.put r1))) p⟩
/-- what an __init__ promises: of the arguments behind self; a result is the object, filled -/
def SpI (K : PySem.W.Frag) (Cl : Addr) (C : Cn) : Sp := fun vs H Q E => ∃ (x dx : Addr) (ws : List V) (G : Hp) (ds : List D) (Ψ : B → Prop) (Ξ : Addr → Str → D → Prop), vs = .ref x :: ws ∧ H x = some (.ins Cl dx []) ∧ G x = none ∧ Ex G (L2.del H x) ∧ RepL K G ws ds ∧ C K 0 ds Ψ Ξ ∧
  (∀ b G' H', Aft Rsc.no G (L2.del H x) G' H' → BVr K Rsc.no G' H' (L2.del H x) (.ref x) b → Ψ b → Q .non H') ∧
  (∀ Cl f v d dd G' H', Aft Rsc.no G (L2.del H x) G' H' → H' dd = some (.xd [(f, v)]) → L2.del H x dd = none → Rep K G' v d → Ξ Cl f d → E (.ref Cl) (some dd) H')
theorem spi_len {K : PySem.W.Frag} {Cl : Addr} {C : Cn} {n : Nat} {vs : List V} {H : Hp} {Q : VK} {E : XK} (hl : ∀ K w ds Ψ Ξ, C K w ds Ψ Ξ → ds.length = n) (h : SpI K Cl C vs H Q E) : vs.length = n + 1 := by
  obtain ⟨x, dx, ws, G, ds, Ψ, Ξ, rfl, _, _, _, r, c, _⟩ := h
  rw [List.length_cons, r.length, hl _ _ _ _ _ c]
theorem Aft.sub {G G' H H1 H' : Hp} (a : Aft Rsc.no G H1 G' H') (h : ∀ b o, H b = some o → H1 b = some o) : Aft Rsc.no G H G' H' :=
  ⟨a.gg, a.gh, a.res, a.rg, fun b h1 h2 => a.nw b h1 (by
    cases e : H b with
    | none => exact absurd e h2
    | some o =>
      rw [h b o e]
      simp), fun b o h1 h2 => a.fr b o h1 (h b o h2), fun b h1 => a.dm b (by
    cases e : H b with
    | none => exact absurd e h1
    | some o =>
      rw [h b o e]
      simp)⟩
/-- C(..) -/
theorem eb_make {K : PySem.W.Frag} {Cl : Addr} {C : Cn} {ts : TA} {E : XK} (hK : K = Γ.K) (h : AW Γ ts ρ fun ds ρ1 => C Γ.K 0 ds (fun b => Ψ b ρ1) NoX) : EB Γ (tMake Cl (SpI K Cl C) [] E ts) ρ Ψ := fun σ G H Q k q =>
  h σ G H _ k fun ds ρ1 vs G1 H1 e1 k1 r1 hc x dx hx hdx hne => by
    subst hK
    rw [List.append_nil]
    have old : ∀ b o, H1 b = some o → L2.del (upd (upd H1 dx (.own x)) x (.ins Cl dx [])) x b = some o := fun b o hb => by
      rw [del_ne (ne_of_none hb hx), upd_ne (ne_of_none hb hx), upd_ne (ne_of_none hb hdx)]
      exact hb
    refine ⟨x, dx, vs, G1, ds, _, NoX, rfl, upd_same, Evl.fresh_back k1.gh hx, fun b o hb => old b o (k1.gh b o hb), r1, hc, fun b G' H' a hb p => ⟨rfl, ?_⟩, fun _ _ _ _ _ _ _ _ _ _ _ z => z.elim⟩
    have a' := Aft.no k1.res k1.rg k1.gh (a.sub old)
    refine q b ρ1 _ G' H' (e1.trans a.gg) (k1.aft a') (br_of k1 ?_) p
    cases b with
    | fz d => exact hb
    | ow c =>
      obtain ⟨y, o, e, h1, h2, h3, h4, h5⟩ := hb
      cases e
      exact ⟨x, o, rfl, h1, h2, h3, fun z => Γ.R.dom H1 x k1.res z hx, hx⟩
/-- the body of an __init__: self is the pointer x; what the object holds: fs -/
def MK (Γ : Ctx) (x C dx : Addr) (ts : TS) (ρ : Env) (fs : List (Str × D)) (Ψ : List (Str × D) → Prop) (Ξ : Addr → Str → D → Prop) : Prop := ∀ σ G H (D : Ends) gs, Γ.X = [] → Γ.H x = none → Ok (Γ.ext (x, .ins C dx gs)) G H σ ρ → RepF Γ.K G gs fs →
  (∀ gs' fs' σ' ρ' G' H', Ok (Γ.ext (x, .ins C dx gs')) G' H' σ' ρ' → RepF Γ.K G' gs' fs' → Ψ fs' → D.nx σ' H') → ts D σ H
theorem mk_fld {K : PySem.W.Frag} {x C dx : Addr} {f : Str} {i : Nat} {fs : List (Str × D)} {P : List (Str × D) → Prop} {Ξ : Addr → Str → D → Prop} (hK : K = Γ.K) (h1 : Cls Γ.K C) (h2 : NoAttr Γ.K C f) (h3 : fs.length < 1000)
    (h : ∀ c, EW (Γ.ext c) te ρ fun d ρ1 => ρ1[i]? = some (some (.fz (.ptr x))) ∧ MK Γ x C dx tu ρ1 (putD f d fs) P Ξ) : MK Γ x C dx (tSeq (sFld K (tVar i) te f) tu) ρ fs P Ξ := fun σ G H D gs hX hz k r kn => by
  subst hK
  refine h _ σ G H _ k fun d ρ1 v G1 H1 e1 k1 r1 ⟨hi, hm⟩ => ?_
  obtain ⟨v1, g1, g2⟩ := k1.var i _ hi
  have g2' : Rep Γ.K G1 v1 (.ptr x) := g2
  cases g2'
  obtain ⟨c1, c2, c3⟩ := k1.cel _ List.mem_cons_self
  have r' := r.mono e1
  refine ⟨_, g1, x, C, dx, gs, rfl, c1, h1, h2, by rw [r'.length]; exact h3, ?_⟩
  have no : ∀ j, ¬ own σ ρ1 j x := fun j o => k1.nx j x o _ List.mem_cons_self rfl
  have k2 : Ok Γ G1 (upd H1 x (.ins C dx (putF f v gs))) σ ρ1 := k1.unext.touch c2 c3 no (by rw [hX]; simp) hz
  exact hm σ G1 _ D _ hX hz (k2.ext upd_same c2 c3 no) (r'.put r1) kn
theorem mk_last {K : PySem.W.Frag} {x C dx : Addr} {f : Str} {i : Nat} {fs : List (Str × D)} {P : List (Str × D) → Prop} {Ξ : Addr → Str → D → Prop} (hK : K = Γ.K) (h1 : Cls Γ.K C) (h2 : NoAttr Γ.K C f) (h3 : fs.length < 1000)
    (h : ∀ c, EW (Γ.ext c) te ρ fun d ρ1 => ρ1[i]? = some (some (.fz (.ptr x))) ∧ P (putD f d fs)) : MK Γ x C dx (sFld K (tVar i) te f) ρ fs P Ξ := fun σ G H D gs hX hz k r kn => by
  subst hK
  refine h _ σ G H _ k fun d ρ1 v G1 H1 e1 k1 r1 ⟨hi, hm⟩ => ?_
  obtain ⟨v1, g1, g2⟩ := k1.var i _ hi
  have g2' : Rep Γ.K G1 v1 (.ptr x) := g2
  cases g2'
  obtain ⟨c1, c2, c3⟩ := k1.cel _ List.mem_cons_self
  have r' := r.mono e1
  refine ⟨_, g1, x, C, dx, gs, rfl, c1, h1, h2, by rw [r'.length]; exact h3, ?_⟩
  have no : ∀ j, ¬ own σ ρ1 j x := fun j o => k1.nx j x o _ List.mem_cons_self rfl
  have k2 : Ok Γ G1 (upd H1 x (.ins C dx (putF f v gs))) σ ρ1 := k1.unext.touch c2 c3 no (by rw [hX]; simp) hz
  exact kn _ _ σ ρ1 G1 _ (k2.ext upd_same c2 c3 no) (r'.put r1) hm
/-- statements ahead of a store -/
theorem mk_pre {x C dx : Addr} {fs : List (Str × D)} {P : List (Str × D) → Prop} {Ξ : Addr → Str → D → Prop} (h : ∀ c, SW (Γ.ext c) ts ρ { nx := fun ρ1 => MK Γ x C dx tu ρ1 fs P Ξ, rt := fun _ => False, bk := fun _ => False, ct := fun _ => False, xr := fun _ => Ξ }) : MK Γ x C dx (tSeq ts tu) ρ fs P Ξ := fun σ G H D gs hX hz k r kn =>
  h _ σ G H _ k (fun ρ1 σ1 G1 H1 e1 k1 p => p σ1 G1 H1 D gs hX hz k1 (r.mono e1) kn) (fun _ _ _ _ _ _ _ _ z => z.elim) (fun _ _ _ _ _ _ z => z.elim) (fun _ _ _ _ _ _ z => z.elim)
theorem body_mk {K : PySem.W.Frag} {Cl : Addr} {C : Cn} {N : List Str} {t : TS} {vs : List V} {H : Hp} {Q : VK} {E : XK} (n : Nat) (hn : n + 1 ≤ N.length) (hlen : ∀ K w ds Ψ Ξ, C K w ds Ψ Ξ → ds.length = n) (h : SpI K Cl C vs H Q E)
    (hb : ∀ (Γ : Ctx) (x dx : Addr) (ds : List D) (Ψ : B → Prop) (Ξ : Addr → Str → D → Prop), Γ.K = K → C K 0 ds Ψ Ξ → (∀ c, KE (Γ.ext c) Ξ E) →
      MK Γ x Cl dx t (some (.fz (.ptr x)) :: (ds.map (fun d => some (.fz d)) ++ List.replicate (N.length - (ds.length + 1)) none)) [] (fun fs => Ψ (.ow (.obj Cl fs))) Ξ) :
    t { nx := fun _ H' => Q .non H', rt := Q } (L2.start N vs) H := by
  obtain ⟨x, dx, ws, G, ds, Ψ, Ξ, rfl, hx, hg, hG, rl, hc, kq, ke⟩ := h
  have hl := rl.length
  have el := hlen _ _ _ _ _ hc
  have dom : ∀ a, L2.del H x a ≠ none → a ≠ x := fun a h e => h (by rw [e]; exact del_same)
  have un : ∀ {a o}, L2.del H x a = some o → H a = some o := fun {a o} h => by
    have ne : a ≠ x := dom a (by rw [h]; simp)
    rw [del_ne ne] at h
    exact h
  have sl : ∀ (i : Nat) b, (ds.map (fun d => some (B.fz d)) ++ List.replicate (N.length - (ds.length + 1)) none)[i]? = some (some b) → ∃ d, ds[i]? = some d ∧ b = .fz d := fun i b h => by
    by_cases hi : i < ds.length
    · rw [List.getElem?_append_left (by rw [List.length_map]; exact hi), List.getElem?_map] at h
      cases hd : ds[i]? with
      | none =>
        rw [hd] at h
        cases h
      | some d =>
        rw [hd] at h
        cases h
        exact ⟨d, rfl, rfl⟩
    · exfalso
      rw [List.getElem?_append_right (by rw [List.length_map]; omega)] at h
      obtain ⟨_, e⟩ := List.getElem?_eq_some_iff.mp h
      rw [List.getElem_replicate] at e
      cases e
  have fz : ∀ (i : Nat) b, (some (B.fz (.ptr x)) :: (ds.map (fun d => some (B.fz d)) ++ List.replicate (N.length - (ds.length + 1)) none))[i]? = some (some b) → ∃ d, b = .fz d := fun i b h => by
    cases i with
    | zero =>
      cases h
      exact ⟨_, rfl⟩
    | succ i =>
      obtain ⟨d, _, e⟩ := sl i b h
      exact ⟨d, e⟩
  have hk : Ok ⟨K, G, L2.del H x, Rsc.no, []⟩ G H (L2.start N (.ref x :: ws)) (some (.fz (.ptr x)) :: (ds.map (fun d => some (.fz d)) ++ List.replicate (N.length - (ds.length + 1)) none)) := by
    refine ⟨fun a o h => un (hG a o h), Ex.refl G, fun a h _ => h, fun a o _ h => un h, fun a h => ?_, trivial, fun _ z => z.elim, ?_, fun i b h => ?_, fun i j a ⟨_, c, q⟩ h2 => ?_, fun p hp => absurd hp (by simp), fun i a _ p hp => absurd hp (by simp)⟩
    · have ne : a ≠ x := dom a h
      have h' : L2.del H x a ≠ none := h
      rw [del_ne ne] at h'
      exact h'
    · unfold L2.start
      rw [List.length_append, List.length_map, List.length_replicate, List.length_cons, List.length_cons, List.length_append, List.length_map, List.length_replicate, hl]
      omega
    · cases i with
      | zero =>
        cases h
        exact ⟨_, rfl, Rep.ptr x⟩
      | succ i =>
        obtain ⟨d, hd, rfl⟩ := sl i b h
        obtain ⟨v, hv, rv⟩ := rl.getD hd
        refine ⟨v, ?_, rv⟩
        show ((V.ref x :: ws).map some ++ _)[i + 1]? = _
        rw [List.map_cons, List.cons_append, List.getElem?_cons_succ, List.getElem?_append_left (by rw [List.length_map, hl]; exact (List.getElem?_eq_some_iff.mp hd).1), List.getElem?_map, hv]
        rfl
    · obtain ⟨d, e⟩ := fz i _ q
      cases e
  have hk2 : Ok (Ctx.ext ⟨K, G, L2.del H x, Rsc.no, []⟩ (x, .ins Cl dx [])) G H (L2.start N (.ref x :: ws)) (some (.fz (.ptr x)) :: (ds.map (fun d => some (.fz d)) ++ List.replicate (N.length - (ds.length + 1)) none)) := hk.ext hx hg (fun z => z) fun i ⟨_, c, q⟩ => by
    obtain ⟨d, e⟩ := fz i _ q
    cases e
  refine hb ⟨K, G, L2.del H x, Rsc.no, []⟩ x dx ds Ψ Ξ rfl hc (fun c C f v d dd σ' ρ' G' H' k xc rv xi => ke C f v d dd G' H' ⟨k.g0, k.gh, k.res, k.rg, k.nw, k.fr, k.dm⟩ xc.at_ xc.nh rv xi) _ G H _ [] rfl del_same hk2 .nil fun gs' fs' σ' ρ' G' H' k r p => ?_
  obtain ⟨c1, c2, c3⟩ := k.cel _ List.mem_cons_self
  exact kq (.ow (.obj Cl fs')) G' H' ⟨k.g0, k.gh, k.res, k.rg, k.nw, k.fr, k.dm⟩ ⟨x, _, rfl, c1, .obj r, c2, c3, del_same⟩ p
end
/-! ### calls by keywords alone -/
theorem pe_callK0 {X : Cx} {CX : CXT} {k : Nat} {f : Addr} {fd : FuncData} {ps ks : List Str} {sp : Sp} {E : XK} {x : Str} {p pos : Pos} {kws : List Keyword} {tk : TA} {g : List Value → List Value → List Value} {gV : List V → List V → List V}
    (F : FnOk X.prog X.w X.K X.mg X.base CX k f fd ps sp) (hr : Room k X.A) (hg : Gl X x) (hm : X.mg x = some (.ref f)) (hk : PySem.W.keepIn X.K (.ref f) = true) (hb : KBinds X.K fd ps ks g gV) (hx : Passes CX X E)
    (hkw : PK X kws tk) (hall : (backToKw pos (keywordEach kws X.env)).all (·.1.isSome) = true := by rfl) (hks : (backToKw pos (keywordEach kws X.env)).filterMap (·.1) = ks := by rfl)
    (hdb : (x == ("__debug__" : Str)) = false := by decide)
    (hpl : ((backTo pos (starEach [] X.env)).any (·.1) || (backToKw pos (keywordEach kws X.env)).any (·.1.isNone)) = false := by rfl) :
    PE X (.Call (.Name x p) [] kws pos) (tCallK sp gV E tNil tk) := by
  refine ⟨fun pins s σ H Q I h => ?_⟩
  refine wpAny_Call_Name_kw (ld_glob I hg hm ?_ hdb)
  refine PySem.W.callWith_KW0 (h₀ := X.base) I.ok.mod.kin hk hall (thn (hkw.run pos pins s σ H _ I h) fun ws s2 ⟨zs, H2, I2, rz, q2⟩ => ⟨I2.kIn, ?_⟩) hpl
  rw [hks]
  exact run_fnk F hr hb hx I2 .nil rz q2
/-- two keywords, in the parameters' order or the other way about -/
def kw2 {α : Type} : List α → List α → List α
  | [], [x, y] => [y, x]
  | _, _ => []
def kw2i {α : Type} : List α → List α → List α
  | [], [x, y] => [x, y]
  | _, _ => []
theorem kbinds2 {K : PySem.W.Frag} {x qual : Str} {st : Stmt} {f : Addr} {fd : FuncData} {p1 p2 : Str} (F : Fun K x qual st f fd)
    (h : ∀ (kV doc pm : Value) (an : Option Addr) (cdv ct u v : Value), bindArgs (PySem.W.fnOf x qual (defArgs st) (defBody st) (defScope st) .none kV doc pm an cdv ct) ⟨[], [(p2, u), (p1, v)]⟩ = pure [(p1, v), (p2, u)]) : KBinds K fd [p1, p2] [p2, p1] kw2 kw2 := by
  obtain ⟨oc, od, kV, doc, pm, an, cdv, ct, osl, rfl, lk, hcd⟩ := F.ex
  refine ⟨fun s us ws _ hl => ?_, fun {vs us zs ws} r1 r2 => ?_⟩
  · match us, ws, hl with
    | [], [u, v], _ => exact BindsTo.of_eq (h kV doc pm an cdv ct u v)
  · cases r1 with
    | cons _ _ => exact .nil
    | nil => cases r2 with
      | nil => exact .nil
      | cons a r2 => cases r2 with
        | nil => exact .nil
        | cons b r2 => cases r2 with
          | nil => exact .cons b (.cons a .nil)
          | cons _ _ => exact .nil
theorem rep_kw2 {K : PySem.W.Frag} {G : Hp} {vs ws : List V} {ds es : List D} (r1 : RepL K G vs ds) (r2 : RepL K G ws es) : RepL K G (kw2 vs ws) (kw2 ds es) := by
  cases r1 with
  | cons _ _ => exact .nil
  | nil => cases r2 with
    | nil => exact .nil
    | cons a r2 => cases r2 with
      | nil => exact .nil
      | cons b r2 => cases r2 with
        | nil => exact .cons b (.cons a .nil)
        | cons _ _ => exact .nil
/-! kinds of data -/
def isIntD : D → Bool | .int _ => true | _ => false
def isBlD : D → Bool | .bl _ => true | _ => false
def isTupD : D → Bool | .tup _ => true | _ => false
def isLstD : D → Bool | .lst _ => true | _ => false
def isStrD : D → Bool | .str _ => true | _ => false
theorem kit_int {d : D} {t : String} (h : tyN d = some t) : kitB t "int" = some (isIntD d || isBlD d) := by cases d <;> cases h <;> simp only [isIntD, isBlD, isTupD, isLstD, isStrD, Bool.or_false, Bool.or_true, Bool.or_self] <;> decide +kernel
theorem kit_bool {d : D} {t : String} (h : tyN d = some t) : kitB t "bool" = some (isBlD d) := by cases d <;> cases h <;> simp only [isIntD, isBlD, isTupD, isLstD, isStrD, Bool.or_false, Bool.or_true, Bool.or_self] <;> decide +kernel
theorem kit_tuple {d : D} {t : String} (h : tyN d = some t) : kitB t "tuple" = some (isTupD d) := by cases d <;> cases h <;> simp only [isIntD, isBlD, isTupD, isLstD, isStrD, Bool.or_false, Bool.or_true, Bool.or_self] <;> decide +kernel
theorem kit_list {d : D} {t : String} (h : tyN d = some t) : kitB t "list" = some (isLstD d) := by cases d <;> cases h <;> simp only [isIntD, isBlD, isTupD, isLstD, isStrD, Bool.or_false, Bool.or_true, Bool.or_self] <;> decide +kernel
theorem kit_str {d : D} {t : String} (h : tyN d = some t) : kitB t "str" = some (isStrD d) := by cases d <;> cases h <;> simp only [isIntD, isBlD, isTupD, isLstD, isStrD, Bool.or_false, Bool.or_true, Bool.or_self] <;> decide +kernel
/-- data whose class is told -/
def Kn (d : D) : Prop := ∃ t, tyN d = some t
theorem kn_int {i : Int} : Kn (.int i) := ⟨_, rfl⟩
theorem kn_tup {ds : List D} : Kn (.tup ds) := ⟨_, rfl⟩
end Dl

namespace Dl
open PySem PySem.Spec PyProof.Rows L2
/-! ### exceptions whose context is known to be None: they may be looked at in a suite that calls -/
/-- an own exception with its own __init__, made where none is handled -/
theorem made_own {X : Cx} {G : CXT} {x : Str} {C fI : Addr} {k : Nat} {fd : FuncData} {ps : List Str} {sp : Sp} {e : Expr} {es : List Expr} {ta : TA} {p pos : Pos}
    (T : OexC X.K C) (iC : PySem.W.findIn X.K (.ref C) "__init__" = some (some (.ref fI))) (tI : PySem.W.typeIn X.K (.ref fI) = some (.type "function")) (D : FnOk X.prog X.w X.K X.mg X.base G k fI fd ps sp)
    (room : Room (k + 1) X.A) (b : Binds X.K fd ps []) (out : Passes G X fun _ _ _ => False) (g : Gl X x) (m : X.mg x = some (.ref C)) (args : PA X (e :: es) ta)
    (nd : (x == ("__debug__" : Str)) = false := by decide) (st : starEach (e :: es) X.env = (false, eval e X.env) :: starEach es X.env := by rfl) (pl : (backTo pos (starEach es X.env)).any (·.1) = false := by rfl) :
    L2N.PMk X (.Call (.Name x p) (e :: es) [] pos) (tMkO C sp [] ta) := fun pins s σ H Q I w => by
  obtain ⟨_, _, _, _, bm, _, _, _, _, _, _, _, _, _, _, atC, inB⟩ := T.cls
  apply wpAny_Call_Name_kw
  apply ld_glob I g m _ nd
  apply PySem.W.callWith_K (h₀ := X.base) I.ok.mod.kin T.kC _ st pl
  apply thn (args.run pos pins s σ H _ I w)
  rintro us ⟨h1, g1, d1, t1, o1⟩ ⟨vs, H1, I1, rv, short, made⟩
  refine ⟨I1.kIn, ?_⟩
  -- the new object's place, the heap behind its making
  obtain ⟨a, ea⟩ : ∃ a, a = h1.objs.size + 1 := ⟨_, rfl⟩
  obtain ⟨h2, eh⟩ : ∃ h2, h2 = (h1.push (PySem.W.kdv_tup us)).push (PySem.HandSPX.excO C h1.objs.size) := ⟨_, rfl⟩
  have old : ∀ c o, h1.get? c = some o → h2.get? c = some o := fun c o q => by
    rw [eh]
    exact Heap.get?_push_of_some _ (Heap.get?_push_of_some _ q)
  have le : h1.objs.size ≤ a := by omega
  have at_ : h2.get? a = some (PySem.HandSPX.excO C h1.objs.size) := by
    rw [eh, ea]
    heap_get
  have free : H1 a = none := I1.hok.fresh le
  have run := made a free
  simp only [List.append_nil] at run
  have J : Inv X pins σ (upd H1 a (exo a C none)) ⟨h2, g1, d1, t1, o1⟩ := I1.laid (t' := t1) (o := exo a C none) old le (exo_ok at_)
  have rvs : Vals (V.ref a :: vs) (Value.ref a :: us) := Paired.cons rfl rv
  have same : (Value.ref a :: us).length = ps.length := rvs.length.symm.trans (D.len _ _ _ _ run)
  have bound := b ⟨h2, g1, d1, t1, o1⟩ (Value.ref a :: us) J.kIn (by rw [List.append_nil]; exact same)
  simp only [List.append_nil] at bound
  have few : us.length ≤ sizeLine := by
    rw [← Paired.length rv, sizeLine_eq]
    omega
  have body := D.run (X.A.under (.builtin "type.__call__" ⟨.ref C :: us, []⟩)) X.stack _ _ ⟨Value.ref a :: us, []⟩ (Value.ref a :: us) _ _ (fun _ _ _ => False) (room.make C us []) (J.env0.make C us []) bound rvs run
  subst ea eh
  refine wpAny_call (PySem.HandSPX.call_own F.excBase_ValueError (fun Y => PySem.HandSPX.refsVE_contains Y bm inB) (I1.kIn _ _ atC) (PySem.W.looks_findIn I1.kIn iC) (fun self => PySem.W.bind_fn I1.kIn self tI) few (codeAny_mono body ?_))
  rintro (er | fl) ⟨h3, g3, d3, t3, o3⟩ z
  · exact out pins σ _ _ er _ J z
  · match fl, z with
    | .ret u, z =>
      obtain ⟨_, H3, os3, bare3, un3, hok3, ru, rfl, d, fs, e1, e2, fr, wish⟩ := z
      obtain ⟨t0, h0, I0, keep, gone, here, hole⟩ := mk_end0 (d2 := d3) (t2 := t3) I1 le old un3 hok3 os3 bare3 e1 e2 fr
      exact ⟨ru, _, _, _, ⟨h0, g3, d3, t3, o3⟩, _, .ref C, some d, rfl, I0, keep, gone, here, ⟨rfl, rfl, fun ws q => by cases q; rfl⟩, rfl, rfl, hole, rfl, bare3, raises_own T.exC T.tyC, wish⟩
section
variable {P : Program} {w : World} {K : PySem.W.Frag} {mg : Str → Option Value} {base : Heap} {x qual : Str} {st : Stmt} {f : Addr} {fd : FuncData} {N ps : List Str} {k : Nat} {sp : Sp}
/-- a def that raises such exceptions -/
theorem okN (F : Fun K x qual st f fd) (S : FnScope N ps (defScope st)) (len : ∀ vs H Q E, sp vs H Q E → vs.length = ps.length)
    (body : ∀ (cd : Value) (A : Around) (outer : List PySem.Env) (s : Shared) (H : Hp) (vs : List V) (Q : VK) (E : XK), Room k (A.deeper (envOfC qual (defScope st) s.heap.objs.size f cd)) → sp vs H Q E → ∃ t, PSs (cxOf (L2N.CX P w) P w K mg base N qual (defScope st) f cd A outer s H E) (defBody st) t ∧ t ⟨fun _ H' => Q .non H', Q, fun _ _ => False, fun _ _ => False⟩ (start N vs) H) :
    FnOk P w K mg base (L2N.CX P w) (k + 1) f fd ps sp := by
  obtain ⟨_, _, _, _, _, _, cd, _, _, e, at_, cod⟩ := F.ex
  subst e
  exact fn_of at_ cod S len (body cd)
/-- a def that raises nothing, called while an exception is handled -/
theorem okH (F : Fun K x qual st f fd) (S : FnScope N ps (defScope st)) (len : ∀ vs H Q E, sp vs H Q E → vs.length = ps.length)
    (body : ∀ (cd : Value) (A : Around) (outer : List PySem.Env) (s : Shared) (H : Hp) (vs : List V) (Q : VK) (E : XK) (p : Addr × Obj), L2H.HotC (L2H.cxH CX0 P w K mg base N qual (defScope st) f cd A outer s H E p).nox → L2H.RoomH k (A.deeper (envOfC qual (defScope st) s.heap.objs.size f cd)) → sp vs H Q E →
      ∃ t, PSs (L2H.cxH CX0 P w K mg base N qual (defScope st) f cd A outer s H E p).nox (defBody st) t ∧ t ⟨fun _ H' => Q .non H', Q, fun _ _ => False, fun _ _ => False⟩ (start N vs) H) :
    L2H.FnH P w K mg base CX0 (k + 1) f fd ps sp := by
  obtain ⟨_, _, _, _, _, _, cd, _, _, e, at_, cod⟩ := F.ex
  subst e
  refine L2H.fn_ofH at_ cod S len fun A outer s H vs Q E p hot room wish => ?_
  obtain ⟨t, h, q⟩ := body cd A outer s H vs Q E p ⟨p, hot, List.mem_singleton.mpr rfl⟩ room wish
  exact ⟨t, h.nox, q⟩
end
theorem passLN {X : Cx} : Passes (L2N.CX X.prog X.w) X E0 := fun _ _ _ _ _ _ _ h => by
  obtain ⟨_, _, _, _, _, _, _, _, _, _, _, _, z⟩ := h
  exact z.elim
theorem takes0N {X : Cx} : L2N.Takes X (fun _ _ _ _ => False) := fun _ _ h => by
  obtain ⟨_, _, _, _, _, _, _, _, _, _, _, _, _, _, _, _, z⟩ := h
  exact z.elim
theorem pass0A {X : Cx} (σ : L2.St) : PassesAt CX0 X σ E0 := fun _ _ _ _ _ _ h => h.elim
theorem hot_suite {X : Cx} {a : Addr} {oe : Obj} {cls : Value} {d : Option Addr} {pn : List (Addr × Obj)} (z : L2N.Zn cls d oe) (v : ∃ vs, oe.data = .fields vs) : L2H.HotC (X.suite a ((a, oe) :: pn)) := by
  obtain ⟨vs, e⟩ := v
  exact ⟨(a, oe), ⟨rfl, vs, e, z.2.2 vs e⟩, List.mem_cons_self⟩
section
variable {Γ : Ctx} {ρ : Env} {Φ : D → Env → Prop}
theorem ew_callH {K : PySem.W.Frag} {C : Cn} {Fam : Rsc → Prop} {ts : TA} {E : XK} (hK : K = Γ.K) (hF : Fam Rsc.no) (h : AW Γ ts ρ fun ds ρ1 => C Γ.K 0 ds (fun b => Φ (asD b) ρ1) NoX) : EW Γ (tCallS (SpD K Fam C) (fun _ => E) ts) ρ Φ := by
  have e : tCallS (SpD K Fam C) (fun _ => E) ts = tCall (SpD K Fam C) [] E ts := by
    funext σ H Q
    show ts σ H (fun vs H1 => SpD K Fam C vs H1 Q E) = ts σ H (fun vs H1 => SpD K Fam C (vs ++ []) H1 Q E)
    simp only [List.append_nil]
  rw [e]
  exact ew_callP hK hF h
end
end Dl

/-! Sh: plain arithmetic of shares. -/
namespace Sh
def gi (a b : Int) : Int := (Int.gcd a b : Int)
theorem gi_nn (a b : Int) : 0 ≤ gi a b := Int.natCast_nonneg _
theorem gi_pos {a b : Int} (h : b ≠ 0) : 0 < gi a b := by
  unfold gi
  have : 0 < Int.gcd a b := Int.gcd_pos_iff.mpr (.inr h)
  omega
theorem gi_l (a b : Int) : gi a b ∣ a := Int.gcd_dvd_left a b
theorem gi_r (a b : Int) : gi a b ∣ b := Int.gcd_dvd_right a b
theorem gi_abs (a b : Int) : gi (a.natAbs : Int) (b.natAbs : Int) = gi a b := by
  unfold gi Int.gcd
  simp
theorem gi_mod {x y : Int} (hx : 0 ≤ x) (hy : 0 < y) : gi y (x % y) = gi x y := by
  obtain ⟨m, rfl⟩ := Int.eq_ofNat_of_zero_le hx
  obtain ⟨n, rfl⟩ := Int.eq_ofNat_of_zero_le (Int.le_of_lt hy)
  unfold gi Int.gcd
  have e : ((m : Int) % (n : Int)).natAbs = m % n := by
    rw [← Int.natCast_emod]
    exact Int.natAbs_natCast _
  rw [e, Int.natAbs_natCast, Int.natAbs_natCast]
  have h := Nat.gcd_rec n m
  rw [Nat.gcd_comm m n, h, Nat.gcd_comm]
theorem gi_zero {x : Int} (hx : 0 ≤ x) : gi x 0 = x := by
  unfold gi
  rw [Int.gcd_zero_right]
  omega
theorem gi_le {a b : Int} (h : b ≠ 0) : gi a b ≤ b.natAbs := by
  have h1 := Int.natAbs_dvd_natAbs.mpr (gi_r a b)
  have h2 := Nat.le_of_dvd (by omega) h1
  have h3 := gi_nn a b
  omega
/-- in lowest terms -/
def red (a b : Int) : Int × Int := if b < 0 then ((-a) / gi a b, (-b) / gi a b) else (a / gi a b, b / gi a b)
structure IsSh (p : Int × Int) : Prop where
  pos : 0 < p.2
  co : gi p.1 p.2 = 1
theorem gi_neg (a b : Int) : gi (-a) (-b) = gi a b := by
  unfold gi
  rw [Int.neg_gcd, Int.gcd_neg]
theorem gi_div {a b : Int} (h : b ≠ 0) : gi (a / gi a b) (b / gi a b) = 1 := by
  have hp := gi_pos (a := a) h
  have e := Int.gcd_ediv (gi_l a b) (gi_r a b)
  unfold gi at e ⊢
  rw [e]
  have : Int.gcd a b / ((Int.gcd a b : Nat) : Int).natAbs = 1 := by
    rw [Int.natAbs_natCast]
    exact Nat.div_self (by unfold gi at hp; omega)
  rw [this]
  rfl
theorem red_pos {a b : Int} (h : 0 < b) : red a b = (a / gi a b, b / gi a b) := by
  unfold red
  rw [if_neg (by omega)]
theorem red_neg {a b : Int} (h : b < 0) : red a b = ((-a) / gi (-a) (-b), (-b) / gi (-a) (-b)) := by
  unfold red
  rw [if_pos h, gi_neg]
theorem div_pos {a b : Int} (h : 0 < b) : 0 < b / gi a b := by
  have h1 := Int.ediv_mul_cancel (gi_r a b)
  have h2 := gi_pos (a := a) (b := b) (by omega)
  by_cases hc : 0 < b / gi a b
  · exact hc
  · exfalso
    have : b / gi a b * gi a b ≤ 0 := Int.mul_nonpos_of_nonpos_of_nonneg (by omega) (by omega)
    omega
theorem red_sh {a b : Int} (h : b ≠ 0) : IsSh (red a b) := by
  by_cases hb : b < 0
  · rw [red_neg hb]
    exact ⟨div_pos (by omega), gi_div (by omega)⟩
  · rw [red_pos (by omega)]
    exact ⟨div_pos (by omega), gi_div h⟩
theorem red_val {a b : Int} (h : b ≠ 0) : (red a b).1 * b = a * (red a b).2 := by
  have key : ∀ {a b : Int}, 0 < b → (a / gi a b) * b = a * (b / gi a b) := fun {a b} hb => by
    have h1 := Int.ediv_mul_cancel (gi_l a b)
    have h2 := Int.ediv_mul_cancel (gi_r a b)
    have h3 : (a / gi a b) * (b / gi a b * gi a b) = (a / gi a b * gi a b) * (b / gi a b) := by
      rw [Int.mul_assoc, Int.mul_comm (b / gi a b)]
    rw [h1, h2] at h3
    exact h3
  by_cases hb : b < 0
  · rw [red_neg hb]
    have e := key (a := -a) (b := -b) (by omega)
    show (-a) / gi (-a) (-b) * b = a * ((-b) / gi (-a) (-b))
    rw [Int.mul_neg, Int.neg_mul] at e
    omega
  · rw [red_pos (by omega)]
    exact key (by omega)
theorem dvd_co {k m n : Int} (h : gi k m = 1) (d : k ∣ m * n) : k ∣ n := by
  rw [← Int.natAbs_dvd_natAbs] at d ⊢
  rw [Int.natAbs_mul] at d
  refine Nat.Coprime.dvd_of_dvd_mul_left ?_ d
  unfold gi Int.gcd at h
  show Nat.gcd _ _ = 1
  omega
theorem gi_comm (a b : Int) : gi a b = gi b a := by
  unfold gi
  rw [Int.gcd_comm]
theorem sh_unique {p q : Int × Int} (hp : IsSh p) (hq : IsSh q) (e : p.1 * q.2 = q.1 * p.2) : p = q := by
  obtain ⟨a, b⟩ := p
  obtain ⟨c, d⟩ := q
  obtain ⟨p1, p2⟩ := hp
  obtain ⟨q1, q2⟩ := hq
  dsimp only at *
  have h1 : b ∣ d := dvd_co (m := a) (by rw [gi_comm]; exact p2) ⟨c, by rw [e, Int.mul_comm]⟩
  have h2 : d ∣ b := dvd_co (m := c) (by rw [gi_comm]; exact q2) ⟨a, by rw [← e, Int.mul_comm]⟩
  have e1 : b = d := Int.dvd_antisymm (by omega) (by omega) h1 h2
  subst e1
  have e2 : a = c := Int.eq_of_mul_eq_mul_right (by omega) e
  rw [e2]
theorem red_is {p : Int × Int} {a b : Int} (hp : IsSh p) (h : b ≠ 0) (e : a * p.2 = p.1 * b) : red a b = p := by
  refine sh_unique (red_sh h) hp ?_
  have v := red_val (a := a) h
  have : (red a b).1 * p.2 * b = p.1 * (red a b).2 * b := by
    rw [Int.mul_right_comm, v, Int.mul_right_comm, e, Int.mul_right_comm]
  exact Int.eq_of_mul_eq_mul_right h this
theorem red_self {p : Int × Int} (hp : IsSh p) : red p.1 p.2 = p := red_is hp (by have := hp.pos; omega) rfl
theorem red_zero {b : Int} (h : b ≠ 0) : red 0 b = (0, 1) := red_is ⟨by decide, by decide⟩ h (by simp)
/-- the law's own way -/
theorem law_red {a b : Int} (h : b ≠ 0) : (a.fdiv (if b < 0 then 0 - gi a b else gi a b), b.fdiv (if b < 0 then 0 - gi a b else gi a b)) = red a b := by
  by_cases hb : b < 0
  · rw [if_pos hb]
    have d1 : (0 - gi a b) ∣ a := by
      rw [Int.zero_sub, Int.neg_dvd]
      exact gi_l a b
    have d2 : (0 - gi a b) ∣ b := by
      rw [Int.zero_sub, Int.neg_dvd]
      exact gi_r a b
    rw [Int.fdiv_eq_ediv_of_dvd d1, Int.fdiv_eq_ediv_of_dvd d2, Int.zero_sub, Int.ediv_neg, Int.ediv_neg]
    unfold red
    rw [if_pos hb, Int.neg_ediv_of_dvd (gi_l a b), Int.neg_ediv_of_dvd (gi_r a b)]
  · rw [if_neg hb, Int.fdiv_eq_ediv_of_dvd (gi_l a b), Int.fdiv_eq_ediv_of_dvd (gi_r a b)]
    unfold red
    rw [if_neg hb]
/-! ### sums of many -/
def stepT (s p : Int × Int) : Int × Int := (s.1 * (p.2 / gi s.2 p.2) + p.1 * (s.2 / gi s.2 p.2), s.2 / gi s.2 p.2 * p.2)
def stepD (s p : Int × Int) : Int × Int := red (s.1 * p.2 + p.1 * s.2) (s.2 * p.2)
structure Rel (t d : Int × Int) : Prop where
  pos : 0 < t.2
  sh : IsSh d
  eq : t.1 * d.2 = d.1 * t.2
theorem rel_step {t d p : Int × Int} (r : Rel t d) (hp : 0 < p.2) : Rel (stepT t p) (stepD d p) := by
  obtain ⟨t1, t2⟩ := t
  obtain ⟨d1, d2⟩ := d
  obtain ⟨p1, p2⟩ := p
  obtain ⟨r1, ⟨r2, r3⟩, r4⟩ := r
  dsimp only at *
  have hM : 0 < d2 * p2 := Int.mul_pos r2 hp
  have hg : 0 < gi t2 p2 := gi_pos (by omega)
  have ha : 0 < t2 / gi t2 p2 := by
    rw [gi_comm]
    exact div_pos r1
  have g1 := Int.ediv_mul_cancel (gi_l t2 p2)
  have g2 := Int.ediv_mul_cancel (gi_r t2 p2)
  have v := red_val (a := d1 * p2 + p1 * d2) (b := d2 * p2) (by omega)
  refine ⟨Int.mul_pos ha hp, red_sh (show d2 * p2 ≠ 0 by omega), ?_⟩
  show (t1 * (p2 / gi t2 p2) + p1 * (t2 / gi t2 p2)) * (stepD (d1, d2) (p1, p2)).2 = (stepD (d1, d2) (p1, p2)).1 * (t2 / gi t2 p2 * p2)
  have e1 : stepD (d1, d2) (p1, p2) = red (d1 * p2 + p1 * d2) (d2 * p2) := rfl
  rw [e1]
  generalize (red (d1 * p2 + p1 * d2) (d2 * p2)).1 = u at *
  generalize (red (d1 * p2 + p1 * d2) (d2 * p2)).2 = z at *
  generalize gi t2 p2 = g at *
  generalize t2 / g = x at *
  generalize p2 / g = y at *
  have hz : (g * (d2 * p2)) ≠ 0 := by
    have := Int.mul_pos hg hM
    omega
  refine Int.eq_of_mul_eq_mul_right hz ?_
  subst g1 g2
  grind
theorem rel_start : Rel (0, 1) (0, 1) := ⟨by decide, ⟨by decide, by decide⟩, by decide⟩
theorem rel_fold : ∀ (ps : List (Int × Int)) {t d : Int × Int}, Rel t d → (∀ p ∈ ps, 0 < p.2) → Rel (ps.foldl stepT t) (ps.foldl stepD d)
  | [], _, _, r, _ => r
  | p :: ps, _, _, r, h => rel_fold ps (rel_step r (h p List.mem_cons_self)) fun q hq => h q (List.mem_cons_of_mem _ hq)
theorem total_is {ps : List (Int × Int)} (h : ∀ p ∈ ps, 0 < p.2) : red (ps.foldl stepT (0, 1)).1 (ps.foldl stepT (0, 1)).2 = ps.foldl stepD (0, 1) := by
  have r := rel_fold ps rel_start h
  exact red_is r.sh (by have := r.pos; omega) r.eq
/-! sizes -/
def Sm (n : Nat) (p : Int × Int) : Prop := p.1.natAbs < 2 ^ n ∧ p.2.natAbs < 2 ^ n
theorem ediv_abs {a g : Int} (h : 0 < g) (d : g ∣ a) : (a / g).natAbs ≤ a.natAbs := by
  obtain ⟨k, rfl⟩ := d
  rw [Int.mul_ediv_cancel_left k (by omega), Int.natAbs_mul]
  exact Nat.le_mul_of_pos_left _ (by omega)
theorem mul_sm {a b : Int} {m n : Nat} (ha : a.natAbs < 2 ^ m) (hb : b.natAbs < 2 ^ n) : (a * b).natAbs < 2 ^ (m + n) := by
  rw [Int.natAbs_mul, Nat.pow_add]
  exact Nat.mul_lt_mul'' ha hb
theorem add_sm {a b : Int} {m : Nat} (ha : a.natAbs < 2 ^ m) (hb : b.natAbs < 2 ^ m) : (a + b).natAbs < 2 ^ (m + 1) := by
  rw [Nat.pow_succ]
  omega
theorem sm_mono {a : Int} {m n : Nat} (h : a.natAbs < 2 ^ m) (l : m ≤ n) : a.natAbs < 2 ^ n := Nat.lt_of_lt_of_le h (Nat.pow_le_pow_right (by decide) l)
theorem red_sm {a b : Int} {n : Nat} (h : b ≠ 0) (ha : a.natAbs < 2 ^ n) (hb : b.natAbs < 2 ^ n) : Sm n (red a b) := by
  have hg := gi_pos (a := a) h
  unfold red
  split
  · exact ⟨Nat.lt_of_le_of_lt (ediv_abs hg ((Int.dvd_neg).mpr (gi_l a b))) (by omega), Nat.lt_of_le_of_lt (ediv_abs hg ((Int.dvd_neg).mpr (gi_r a b))) (by omega)⟩
  · exact ⟨Nat.lt_of_le_of_lt (ediv_abs hg (gi_l a b)) ha, Nat.lt_of_le_of_lt (ediv_abs hg (gi_r a b)) hb⟩
theorem stepT_sm {s p : Int × Int} {m n : Nat} (hs : Sm m s) (hp : Sm n p) (hp2 : 0 < p.2) : Sm (m + n + 1) (stepT s p) := by
  have hg := gi_pos (a := s.2) (b := p.2) (by omega)
  have h1 : (p.2 / gi s.2 p.2).natAbs < 2 ^ n := Nat.lt_of_le_of_lt (ediv_abs hg (gi_r _ _)) hp.2
  have h2 : (s.2 / gi s.2 p.2).natAbs < 2 ^ m := Nat.lt_of_le_of_lt (ediv_abs hg (gi_l _ _)) hs.2
  exact ⟨add_sm (mul_sm hs.1 h1) (by rw [Nat.add_comm]; exact mul_sm hp.1 h2), sm_mono (mul_sm h2 hp.2) (by omega)⟩
theorem stepD_sm {s p : Int × Int} {m n : Nat} (hs : Sm m s) (hp : Sm n p) (hs2 : 0 < s.2) (hp2 : 0 < p.2) : Sm (m + n + 1) (stepD s p) := by
  have := Int.mul_pos hs2 hp2
  exact red_sm (by omega) (add_sm (mul_sm hs.1 hp.2) (by rw [Nat.add_comm]; exact mul_sm hp.1 hs.2)) (sm_mono (mul_sm hs.2 hp.2) (by omega))
end Sh

namespace Pf
open PySem L2 Dl
def top (i : Nat) : Stmt := PySem.Challenge.pw_mirrorcounts_k00_shares.main.body.getD i (.Pass ⟨0, 0, 0, 0⟩)
abbrev s_is_integer : Stmt := top 2
abbrev s_is_number : Stmt := top 3
abbrev s_is_number_below : Stmt := top 4
abbrev s_is_sequence : Stmt := top 5
abbrev s_is_pair : Stmt := top 6
abbrev s_frozen : Stmt := top 7
abbrev s_InvalidNumber__init : Stmt := inClass (top 10) 0
abbrev s_InvalidWeb__init : Stmt := inClass (top 11) 0
abbrev s_Undefined__init : Stmt := inClass (top 12) 0
abbrev s_common_divisor : Stmt := top 15
abbrev s_is_share : Stmt := top 16
abbrev s_as_share : Stmt := top 17
abbrev s_reduced_pair : Stmt := top 18
abbrev s_share_of : Stmt := top 19
abbrev s_plus : Stmt := top 20
abbrev s_less : Stmt := top 21
abbrev s_times : Stmt := top 22
abbrev s_over : Stmt := top 23
abbrev s_is_below : Stmt := top 24
abbrev s_total_of : Stmt := top 25
abbrev s_is_tie : Stmt := top 27
abbrev s_is_web : Stmt := top 28
abbrev s_Web__init : Stmt := inClass (top 29) 0
abbrev s_Web__eq : Stmt := inClass (top 29) 1
abbrev s__law_well : Stmt := top 31
abbrev s__law_draw : Stmt := top 32
abbrev s__law_same : Stmt := top 33
abbrev s__law_share : Stmt := top 34
abbrev s__law_drawn : Stmt := top 35
abbrev s__law_handed : Stmt := top 36
abbrev s__law_made_right : Stmt := top 37
abbrev s__law_over_right : Stmt := top 38
abbrev s__law_near : Stmt := top 39
abbrev s__law_pair_right : Stmt := top 40
abbrev s__law_whole : Stmt := top 41
abbrev s_law : Stmt := top 42
theorem sc_is_integer : FnScope ["value"] ["value"] (defScope s_is_integer) := ⟨rfl, rfl, rfl, by decide +kernel, rfl, by decide +kernel, by decide +kernel⟩
theorem sc_is_number : FnScope ["value"] ["value"] (defScope s_is_number) := ⟨rfl, rfl, rfl, by decide +kernel, rfl, by decide +kernel, by decide +kernel⟩
theorem sc_is_number_below : FnScope ["value", "limit"] ["value", "limit"] (defScope s_is_number_below) := ⟨rfl, rfl, rfl, by decide +kernel, rfl, by decide +kernel, by decide +kernel⟩
theorem sc_is_sequence : FnScope ["value"] ["value"] (defScope s_is_sequence) := ⟨rfl, rfl, rfl, by decide +kernel, rfl, by decide +kernel, by decide +kernel⟩
theorem sc_is_pair : FnScope ["value"] ["value"] (defScope s_is_pair) := ⟨rfl, rfl, rfl, by decide +kernel, rfl, by decide +kernel, by decide +kernel⟩
theorem sc_frozen : FnScope ["value", "one"] ["value"] (defScope s_frozen) := ⟨rfl, rfl, rfl, by decide +kernel, rfl, by decide +kernel, by decide +kernel⟩
theorem sc_InvalidNumber__init : FnScope ["self", "value"] ["self", "value"] (defScope s_InvalidNumber__init) := ⟨rfl, rfl, rfl, by decide +kernel, rfl, by decide +kernel, by decide +kernel⟩
theorem sc_InvalidWeb__init : FnScope ["self", "value"] ["self", "value"] (defScope s_InvalidWeb__init) := ⟨rfl, rfl, rfl, by decide +kernel, rfl, by decide +kernel, by decide +kernel⟩
theorem sc_Undefined__init : FnScope ["self", "what"] ["self", "what"] (defScope s_Undefined__init) := ⟨rfl, rfl, rfl, by decide +kernel, rfl, by decide +kernel, by decide +kernel⟩
theorem sc_common_divisor : FnScope ["a", "b"] ["a", "b"] (defScope s_common_divisor) := ⟨rfl, rfl, rfl, by decide +kernel, rfl, by decide +kernel, by decide +kernel⟩
theorem sc_is_share : FnScope ["value", "a", "b"] ["value"] (defScope s_is_share) := ⟨rfl, rfl, rfl, by decide +kernel, rfl, by decide +kernel, by decide +kernel⟩
theorem sc_as_share : FnScope ["value"] ["value"] (defScope s_as_share) := ⟨rfl, rfl, rfl, by decide +kernel, rfl, by decide +kernel, by decide +kernel⟩
theorem sc_reduced_pair : FnScope ["a", "b", "divisor"] ["a", "b"] (defScope s_reduced_pair) := ⟨rfl, rfl, rfl, by decide +kernel, rfl, by decide +kernel, by decide +kernel⟩
theorem sc_share_of : FnScope ["a", "b"] ["a", "b"] (defScope s_share_of) := ⟨rfl, rfl, rfl, by decide +kernel, rfl, by decide +kernel, by decide +kernel⟩
theorem sc_plus : FnScope ["one", "other", "a", "b", "c", "d"] ["one", "other"] (defScope s_plus) := ⟨rfl, rfl, rfl, by decide +kernel, rfl, by decide +kernel, by decide +kernel⟩
theorem sc_less : FnScope ["one", "other", "a", "b", "c", "d"] ["one", "other"] (defScope s_less) := ⟨rfl, rfl, rfl, by decide +kernel, rfl, by decide +kernel, by decide +kernel⟩
theorem sc_times : FnScope ["one", "other", "a", "b", "c", "d"] ["one", "other"] (defScope s_times) := ⟨rfl, rfl, rfl, by decide +kernel, rfl, by decide +kernel, by decide +kernel⟩
theorem sc_over : FnScope ["one", "other", "a", "b", "c", "d"] ["one", "other"] (defScope s_over) := ⟨rfl, rfl, rfl, by decide +kernel, rfl, by decide +kernel, by decide +kernel⟩
theorem sc_is_below : FnScope ["one", "other", "a", "b", "c", "d"] ["one", "other"] (defScope s_is_below) := ⟨rfl, rfl, rfl, by decide +kernel, rfl, by decide +kernel, by decide +kernel⟩
theorem sc_total_of : FnScope ["shares", "top", "bottom", "share", "a", "b", "divisor"] ["shares"] (defScope s_total_of) := ⟨rfl, rfl, rfl, by decide +kernel, rfl, by decide +kernel, by decide +kernel⟩
theorem sc_is_tie : FnScope ["value", "size", "first", "second"] ["value", "size"] (defScope s_is_tie) := ⟨rfl, rfl, rfl, by decide +kernel, rfl, by decide +kernel, by decide +kernel⟩
theorem sc_is_web : FnScope ["size", "ties", "tie"] ["size", "ties"] (defScope s_is_web) := ⟨rfl, rfl, rfl, by decide +kernel, rfl, by decide +kernel, by decide +kernel⟩
theorem sc_Web__init : FnScope ["self", "size", "ties", "kept"] ["self", "size", "ties"] (defScope s_Web__init) := ⟨rfl, rfl, rfl, by decide +kernel, rfl, by decide +kernel, by decide +kernel⟩
theorem sc_Web__eq : FnScope ["self", "other"] ["self", "other"] (defScope s_Web__eq) := ⟨rfl, rfl, rfl, by decide +kernel, rfl, by decide +kernel, by decide +kernel⟩
theorem sc__law_well : FnScope ["script", "k", "cell", "seed"] ["script", "k"] (defScope s__law_well) := ⟨rfl, rfl, rfl, by decide +kernel, rfl, by decide +kernel, by decide +kernel⟩
theorem sc__law_draw : FnScope ["well", "many", "digit", "mixed"] ["well", "many"] (defScope s__law_draw) := ⟨rfl, rfl, rfl, by decide +kernel, rfl, by decide +kernel, by decide +kernel⟩
theorem sc__law_same : FnScope ["came", "due", "k"] ["came", "due"] (defScope s__law_same) := ⟨rfl, rfl, rfl, by decide +kernel, rfl, by decide +kernel, by decide +kernel⟩
theorem sc__law_share : FnScope ["top", "bottom", "one", "other", "rest"] ["top", "bottom"] (defScope s__law_share) := ⟨rfl, rfl, rfl, by decide +kernel, rfl, by decide +kernel, by decide +kernel⟩
theorem sc__law_drawn : FnScope ["well", "way"] ["well"] (defScope s__law_drawn) := ⟨rfl, rfl, rfl, by decide +kernel, rfl, by decide +kernel, by decide +kernel⟩
theorem sc__law_handed : FnScope ["well", "share"] ["well", "share"] (defScope s__law_handed) := ⟨rfl, rfl, rfl, by decide +kernel, rfl, by decide +kernel, by decide +kernel⟩
theorem sc__law_made_right : FnScope ["well", "top", "bottom", "came", "e"] ["well"] (defScope s__law_made_right) := ⟨rfl, rfl, rfl, by decide +kernel, rfl, by decide +kernel, by decide +kernel⟩
theorem sc__law_over_right : FnScope ["well", "one", "other", "came", "e"] ["well", "one", "other"] (defScope s__law_over_right) := ⟨rfl, rfl, rfl, by decide +kernel, rfl, by decide +kernel, by decide +kernel⟩
theorem sc__law_near : FnScope ["well", "one", "a", "b", "found"] ["well", "one"] (defScope s__law_near) := ⟨rfl, rfl, rfl, by decide +kernel, rfl, by decide +kernel, by decide +kernel⟩
theorem sc__law_pair_right : FnScope ["well", "one", "other", "a", "b", "c", "d", "came"] ["well", "one", "other"] (defScope s__law_pair_right) := ⟨rfl, rfl, rfl, by decide +kernel, rfl, by decide +kernel, by decide +kernel⟩
theorem sc__law_whole : FnScope ["script", "k", "well", "one", "other", "way", "thing", "good", "rows", "j", "due", "share", "handed"] ["script"] (defScope s__law_whole) := ⟨rfl, rfl, rfl, by decide +kernel, rfl, by decide +kernel, by decide +kernel⟩
theorem sc_law : FnScope ["script"] ["script"] (defScope s_law) := ⟨rfl, rfl, rfl, by decide +kernel, rfl, by decide +kernel, by decide +kernel⟩
structure Ad where
  is_integer : Addr
  fd_is_integer : FuncData
  is_number : Addr
  fd_is_number : FuncData
  is_number_below : Addr
  fd_is_number_below : FuncData
  is_sequence : Addr
  fd_is_sequence : FuncData
  is_pair : Addr
  fd_is_pair : FuncData
  frozen : Addr
  fd_frozen : FuncData
  InvalidNumber__init : Addr
  fd_InvalidNumber__init : FuncData
  InvalidWeb__init : Addr
  fd_InvalidWeb__init : FuncData
  Undefined__init : Addr
  fd_Undefined__init : FuncData
  common_divisor : Addr
  fd_common_divisor : FuncData
  is_share : Addr
  fd_is_share : FuncData
  as_share : Addr
  fd_as_share : FuncData
  reduced_pair : Addr
  fd_reduced_pair : FuncData
  share_of : Addr
  fd_share_of : FuncData
  plus : Addr
  fd_plus : FuncData
  less : Addr
  fd_less : FuncData
  times : Addr
  fd_times : FuncData
  over : Addr
  fd_over : FuncData
  is_below : Addr
  fd_is_below : FuncData
  total_of : Addr
  fd_total_of : FuncData
  is_tie : Addr
  fd_is_tie : FuncData
  is_web : Addr
  fd_is_web : FuncData
  Web__init : Addr
  fd_Web__init : FuncData
  Web__eq : Addr
  fd_Web__eq : FuncData
  _law_well : Addr
  fd__law_well : FuncData
  _law_draw : Addr
  fd__law_draw : FuncData
  _law_same : Addr
  fd__law_same : FuncData
  _law_share : Addr
  fd__law_share : FuncData
  _law_drawn : Addr
  fd__law_drawn : FuncData
  _law_handed : Addr
  fd__law_handed : FuncData
  _law_made_right : Addr
  fd__law_made_right : FuncData
  _law_over_right : Addr
  fd__law_over_right : FuncData
  _law_near : Addr
  fd__law_near : FuncData
  _law_pair_right : Addr
  fd__law_pair_right : FuncData
  _law_whole : Addr
  fd__law_whole : FuncData
  law : Addr
  fd_law : FuncData
  c_CountError : Addr
  c_InvalidNumber : Addr
  c_InvalidWeb : Addr
  c_Undefined : Addr
  c_Web : Addr
  k_NOUGHT : Addr
structure Txt (K : PySem.W.Frag) (mg : Str → Option Value) (A : Ad) : Prop where
  F_is_integer : Fun K "is_integer" "is_integer" s_is_integer A.is_integer A.fd_is_integer
  m_is_integer : mg "is_integer" = some (.ref A.is_integer)
  F_is_number : Fun K "is_number" "is_number" s_is_number A.is_number A.fd_is_number
  m_is_number : mg "is_number" = some (.ref A.is_number)
  F_is_number_below : Fun K "is_number_below" "is_number_below" s_is_number_below A.is_number_below A.fd_is_number_below
  m_is_number_below : mg "is_number_below" = some (.ref A.is_number_below)
  F_is_sequence : Fun K "is_sequence" "is_sequence" s_is_sequence A.is_sequence A.fd_is_sequence
  m_is_sequence : mg "is_sequence" = some (.ref A.is_sequence)
  F_is_pair : Fun K "is_pair" "is_pair" s_is_pair A.is_pair A.fd_is_pair
  m_is_pair : mg "is_pair" = some (.ref A.is_pair)
  F_frozen : Fun K "frozen" "frozen" s_frozen A.frozen A.fd_frozen
  m_frozen : mg "frozen" = some (.ref A.frozen)
  F_InvalidNumber__init : Fun K "__init__" "InvalidNumber.__init__" s_InvalidNumber__init A.InvalidNumber__init A.fd_InvalidNumber__init
  F_InvalidWeb__init : Fun K "__init__" "InvalidWeb.__init__" s_InvalidWeb__init A.InvalidWeb__init A.fd_InvalidWeb__init
  F_Undefined__init : Fun K "__init__" "Undefined.__init__" s_Undefined__init A.Undefined__init A.fd_Undefined__init
  F_common_divisor : Fun K "common_divisor" "common_divisor" s_common_divisor A.common_divisor A.fd_common_divisor
  m_common_divisor : mg "common_divisor" = some (.ref A.common_divisor)
  F_is_share : Fun K "is_share" "is_share" s_is_share A.is_share A.fd_is_share
  m_is_share : mg "is_share" = some (.ref A.is_share)
  F_as_share : Fun K "as_share" "as_share" s_as_share A.as_share A.fd_as_share
  m_as_share : mg "as_share" = some (.ref A.as_share)
  F_reduced_pair : Fun K "reduced_pair" "reduced_pair" s_reduced_pair A.reduced_pair A.fd_reduced_pair
  m_reduced_pair : mg "reduced_pair" = some (.ref A.reduced_pair)
  F_share_of : Fun K "share_of" "share_of" s_share_of A.share_of A.fd_share_of
  m_share_of : mg "share_of" = some (.ref A.share_of)
  F_plus : Fun K "plus" "plus" s_plus A.plus A.fd_plus
  m_plus : mg "plus" = some (.ref A.plus)
  F_less : Fun K "less" "less" s_less A.less A.fd_less
  m_less : mg "less" = some (.ref A.less)
  F_times : Fun K "times" "times" s_times A.times A.fd_times
  m_times : mg "times" = some (.ref A.times)
  F_over : Fun K "over" "over" s_over A.over A.fd_over
  m_over : mg "over" = some (.ref A.over)
  F_is_below : Fun K "is_below" "is_below" s_is_below A.is_below A.fd_is_below
  m_is_below : mg "is_below" = some (.ref A.is_below)
  F_total_of : Fun K "total_of" "total_of" s_total_of A.total_of A.fd_total_of
  m_total_of : mg "total_of" = some (.ref A.total_of)
  F_is_tie : Fun K "is_tie" "is_tie" s_is_tie A.is_tie A.fd_is_tie
  m_is_tie : mg "is_tie" = some (.ref A.is_tie)
  F_is_web : Fun K "is_web" "is_web" s_is_web A.is_web A.fd_is_web
  m_is_web : mg "is_web" = some (.ref A.is_web)
  F_Web__init : Fun K "__init__" "Web.__init__" s_Web__init A.Web__init A.fd_Web__init
  F_Web__eq : Fun K "__eq__" "Web.__eq__" s_Web__eq A.Web__eq A.fd_Web__eq
  F__law_well : Fun K "_law_well" "_law_well" s__law_well A._law_well A.fd__law_well
  m__law_well : mg "_law_well" = some (.ref A._law_well)
  F__law_draw : Fun K "_law_draw" "_law_draw" s__law_draw A._law_draw A.fd__law_draw
  m__law_draw : mg "_law_draw" = some (.ref A._law_draw)
  F__law_same : Fun K "_law_same" "_law_same" s__law_same A._law_same A.fd__law_same
  m__law_same : mg "_law_same" = some (.ref A._law_same)
  F__law_share : Fun K "_law_share" "_law_share" s__law_share A._law_share A.fd__law_share
  m__law_share : mg "_law_share" = some (.ref A._law_share)
  F__law_drawn : Fun K "_law_drawn" "_law_drawn" s__law_drawn A._law_drawn A.fd__law_drawn
  m__law_drawn : mg "_law_drawn" = some (.ref A._law_drawn)
  F__law_handed : Fun K "_law_handed" "_law_handed" s__law_handed A._law_handed A.fd__law_handed
  m__law_handed : mg "_law_handed" = some (.ref A._law_handed)
  F__law_made_right : Fun K "_law_made_right" "_law_made_right" s__law_made_right A._law_made_right A.fd__law_made_right
  m__law_made_right : mg "_law_made_right" = some (.ref A._law_made_right)
  F__law_over_right : Fun K "_law_over_right" "_law_over_right" s__law_over_right A._law_over_right A.fd__law_over_right
  m__law_over_right : mg "_law_over_right" = some (.ref A._law_over_right)
  F__law_near : Fun K "_law_near" "_law_near" s__law_near A._law_near A.fd__law_near
  m__law_near : mg "_law_near" = some (.ref A._law_near)
  F__law_pair_right : Fun K "_law_pair_right" "_law_pair_right" s__law_pair_right A._law_pair_right A.fd__law_pair_right
  m__law_pair_right : mg "_law_pair_right" = some (.ref A._law_pair_right)
  F__law_whole : Fun K "_law_whole" "_law_whole" s__law_whole A._law_whole A.fd__law_whole
  m__law_whole : mg "_law_whole" = some (.ref A._law_whole)
  F_law : Fun K "law" "law" s_law A.law A.fd_law
  m_law : mg "law" = some (.ref A.law)
  m_CountError : mg "CountError" = some (.ref A.c_CountError)
  te_CountError : PySem.W.exmOne K (.ref A.c_CountError) (.ref A.c_CountError) = some true
  m_InvalidNumber : mg "InvalidNumber" = some (.ref A.c_InvalidNumber)
  te_InvalidNumber : PySem.W.exmOne K (.ref A.c_InvalidNumber) (.ref A.c_InvalidNumber) = some true
  te_InvalidNumber_CountError : PySem.W.exmOne K (.ref A.c_InvalidNumber) (.ref A.c_CountError) = some true
  ox_InvalidNumber : OexC K A.c_InvalidNumber
  xf_InvalidNumber : XfC K A.c_InvalidNumber
  i_InvalidNumber : PySem.W.findIn K (.ref A.c_InvalidNumber) "__init__" = some (some (.ref A.InvalidNumber__init))
  t_InvalidNumber : PySem.W.typeIn K (.ref A.InvalidNumber__init) = some (.type "function")
  no_InvalidNumber_value : PySem.W.findIn K (.ref A.c_InvalidNumber) "value" = some none
  m_InvalidWeb : mg "InvalidWeb" = some (.ref A.c_InvalidWeb)
  te_InvalidWeb : PySem.W.exmOne K (.ref A.c_InvalidWeb) (.ref A.c_InvalidWeb) = some true
  te_InvalidWeb_CountError : PySem.W.exmOne K (.ref A.c_InvalidWeb) (.ref A.c_CountError) = some true
  ox_InvalidWeb : OexC K A.c_InvalidWeb
  xf_InvalidWeb : XfC K A.c_InvalidWeb
  i_InvalidWeb : PySem.W.findIn K (.ref A.c_InvalidWeb) "__init__" = some (some (.ref A.InvalidWeb__init))
  t_InvalidWeb : PySem.W.typeIn K (.ref A.InvalidWeb__init) = some (.type "function")
  no_InvalidWeb_value : PySem.W.findIn K (.ref A.c_InvalidWeb) "value" = some none
  m_Undefined : mg "Undefined" = some (.ref A.c_Undefined)
  te_Undefined : PySem.W.exmOne K (.ref A.c_Undefined) (.ref A.c_Undefined) = some true
  te_Undefined_CountError : PySem.W.exmOne K (.ref A.c_Undefined) (.ref A.c_CountError) = some true
  ox_Undefined : OexC K A.c_Undefined
  xf_Undefined : XfC K A.c_Undefined
  i_Undefined : PySem.W.findIn K (.ref A.c_Undefined) "__init__" = some (some (.ref A.Undefined__init))
  t_Undefined : PySem.W.typeIn K (.ref A.Undefined__init) = some (.type "function")
  no_Undefined_what : PySem.W.findIn K (.ref A.c_Undefined) "what" = some none
  m_Web : mg "Web" = some (.ref A.c_Web)
  cl_Web : Cls K A.c_Web
  ot_Web : Dl.ObjTy K A.c_Web
  kt_Web_tuple : PySem.W.kitOne K (.ref A.c_Web) (.type "tuple") = some false
  mk_Web : Mk K A.c_Web A.Web__init
  me_Web__eq : Meth K A.c_Web "__eq__" A.Web__eq
  no_Web_size : PySem.W.findIn K (.ref A.c_Web) "size" = some none
  no_Web_ties : PySem.W.findIn K (.ref A.c_Web) "ties" = some none
  m_NOUGHT : mg "NOUGHT" = some (.ref A.k_NOUGHT)
  k_NOUGHT : ∀ H, SqT K H A.k_NOUGHT [V.int 0, V.int 1]
  b_abs : mg "abs" = none
  b_len : mg "len" = none
  b_range : mg "range" = none
  b_int : mg "int" = none
  b_str : mg "str" = none
  b_isinstance : mg "isinstance" = none
  b_tuple : mg "tuple" = none
  b_list : mg "list" = none
  b_all : mg "all" = none
  b_bool : mg "bool" = none
  b_ValueError : mg "ValueError" = none
theorem all_mk {K : PySem.W.Frag} {h : Heap} {mg : Str → Option Value} {fa : Addr} (X : K.In h) (G : h.Ns mainGlobals mg) (hfa : mg "law" = some (.ref fa))
    {oc1 kV1 dc1 pm1 cd1 ct1 : Value} {od1 an1 : Option Addr} {sl1 : Array (Option Value)}
    {f1 : Addr}
    {oc2 kV2 dc2 pm2 cd2 ct2 : Value} {od2 an2 : Option Addr} {sl2 : Array (Option Value)}
    {f2 : Addr}
    {oc3 kV3 dc3 pm3 cd3 ct3 : Value} {od3 an3 : Option Addr} {sl3 : Array (Option Value)}
    {f3 : Addr}
    {oc4 kV4 dc4 pm4 cd4 ct4 : Value} {od4 an4 : Option Addr} {sl4 : Array (Option Value)}
    {f4 : Addr}
    {oc5 kV5 dc5 pm5 cd5 ct5 : Value} {od5 an5 : Option Addr} {sl5 : Array (Option Value)}
    {f5 : Addr}
    {oc6 kV6 dc6 pm6 cd6 ct6 : Value} {od6 an6 : Option Addr} {sl6 : Array (Option Value)}
    {f6 : Addr}
    {oc7 kV7 dc7 pm7 cd7 ct7 : Value} {od7 an7 : Option Addr} {sl7 : Array (Option Value)}
    {f7 : Addr}
    {oc8 kV8 dc8 pm8 cd8 ct8 : Value} {od8 an8 : Option Addr} {sl8 : Array (Option Value)}
    {f8 : Addr}
    {oc9 kV9 dc9 pm9 cd9 ct9 : Value} {od9 an9 : Option Addr} {sl9 : Array (Option Value)}
    {f9 : Addr}
    {oc10 kV10 dc10 pm10 cd10 ct10 : Value} {od10 an10 : Option Addr} {sl10 : Array (Option Value)}
    {f10 : Addr}
    {oc11 kV11 dc11 pm11 cd11 ct11 : Value} {od11 an11 : Option Addr} {sl11 : Array (Option Value)}
    {f11 : Addr}
    {oc12 kV12 dc12 pm12 cd12 ct12 : Value} {od12 an12 : Option Addr} {sl12 : Array (Option Value)}
    {f12 : Addr}
    {oc13 kV13 dc13 pm13 cd13 ct13 : Value} {od13 an13 : Option Addr} {sl13 : Array (Option Value)}
    {f13 : Addr}
    {oc14 kV14 dc14 pm14 cd14 ct14 : Value} {od14 an14 : Option Addr} {sl14 : Array (Option Value)}
    {f14 : Addr}
    {oc15 kV15 dc15 pm15 cd15 ct15 : Value} {od15 an15 : Option Addr} {sl15 : Array (Option Value)}
    {f15 : Addr}
    {oc16 kV16 dc16 pm16 cd16 ct16 : Value} {od16 an16 : Option Addr} {sl16 : Array (Option Value)}
    {f16 : Addr}
    {oc17 kV17 dc17 pm17 cd17 ct17 : Value} {od17 an17 : Option Addr} {sl17 : Array (Option Value)}
    {f17 : Addr}
    {oc18 kV18 dc18 pm18 cd18 ct18 : Value} {od18 an18 : Option Addr} {sl18 : Array (Option Value)}
    {f18 : Addr}
    {oc19 kV19 dc19 pm19 cd19 ct19 : Value} {od19 an19 : Option Addr} {sl19 : Array (Option Value)}
    {f19 : Addr}
    {oc20 kV20 dc20 pm20 cd20 ct20 : Value} {od20 an20 : Option Addr} {sl20 : Array (Option Value)}
    {f20 : Addr}
    {oc21 kV21 dc21 pm21 cd21 ct21 : Value} {od21 an21 : Option Addr} {sl21 : Array (Option Value)}
    {f21 : Addr}
    {oc22 kV22 dc22 pm22 cd22 ct22 : Value} {od22 an22 : Option Addr} {sl22 : Array (Option Value)}
    {f22 : Addr}
    {oc23 kV23 dc23 pm23 cd23 ct23 : Value} {od23 an23 : Option Addr} {sl23 : Array (Option Value)}
    {f23 : Addr}
    {oc24 kV24 dc24 pm24 cd24 ct24 : Value} {od24 an24 : Option Addr} {sl24 : Array (Option Value)}
    {f24 : Addr}
    {oc25 kV25 dc25 pm25 cd25 ct25 : Value} {od25 an25 : Option Addr} {sl25 : Array (Option Value)}
    {f25 : Addr}
    {oc26 kV26 dc26 pm26 cd26 ct26 : Value} {od26 an26 : Option Addr} {sl26 : Array (Option Value)}
    {f26 : Addr}
    {oc27 kV27 dc27 pm27 cd27 ct27 : Value} {od27 an27 : Option Addr} {sl27 : Array (Option Value)}
    {f27 : Addr}
    {oc28 kV28 dc28 pm28 cd28 ct28 : Value} {od28 an28 : Option Addr} {sl28 : Array (Option Value)}
    {f28 : Addr}
    {oc29 kV29 dc29 pm29 cd29 ct29 : Value} {od29 an29 : Option Addr} {sl29 : Array (Option Value)}
    {f29 : Addr}
    {oc30 kV30 dc30 pm30 cd30 ct30 : Value} {od30 an30 : Option Addr} {sl30 : Array (Option Value)}
    {f30 : Addr}
    {oc31 kV31 dc31 pm31 cd31 ct31 : Value} {od31 an31 : Option Addr} {sl31 : Array (Option Value)}
    {f31 : Addr}
    {oc32 kV32 dc32 pm32 cd32 ct32 : Value} {od32 an32 : Option Addr} {sl32 : Array (Option Value)}
    {f32 : Addr}
    {oc33 kV33 dc33 pm33 cd33 ct33 : Value} {od33 an33 : Option Addr} {sl33 : Array (Option Value)}
    {f33 : Addr}
    {oc34 kV34 dc34 pm34 cd34 ct34 : Value} {od34 an34 : Option Addr} {sl34 : Array (Option Value)}
    {f34 : Addr}
    {oc35 kV35 dc35 pm35 cd35 ct35 : Value} {od35 an35 : Option Addr} {sl35 : Array (Option Value)}
    {f35 : Addr}
    {oc36 kV36 dc36 pm36 cd36 ct36 : Value} {od36 an36 : Option Addr} {sl36 : Array (Option Value)}
    {f36 : Addr}
    {C0 : Addr}
    {nm0 q0 : Str} {N0 : Addr} {bs0 : List Value} {sn0 : List Str} {sub0 : List Value} {ab0 : Bool} {col0 : Option Bool} {dd0 : Option Addr} {ma0 mb0 mc0 me0 mf0 : Option Value}
    {C1 : Addr}
    {nm1 q1 : Str} {N1 : Addr} {bs1 : List Value} {sn1 : List Str} {sub1 : List Value} {ab1 : Bool} {col1 : Option Bool} {dd1 : Option Addr} {ma1 mb1 mc1 me1 mf1 : Option Value}
    {C2 : Addr}
    {nm2 q2 : Str} {N2 : Addr} {bs2 : List Value} {sn2 : List Str} {sub2 : List Value} {ab2 : Bool} {col2 : Option Bool} {dd2 : Option Addr} {ma2 mb2 mc2 me2 mf2 : Option Value}
    {C3 : Addr}
    {nm3 q3 : Str} {N3 : Addr} {bs3 : List Value} {sn3 : List Str} {sub3 : List Value} {ab3 : Bool} {col3 : Option Bool} {dd3 : Option Addr} {ma3 mb3 mc3 me3 mf3 : Option Value}
    {C4 : Addr}
    {K0 : Addr}
    {tk0_0 tk0_1 : Tok}
    {Kd0 : Option Addr} {Ks0 : Array (Option Value)}
    (aC0 : PySem.W.nsIn K mainGlobals "CountError" = some (some (.ref C0)))
    (aC1 : PySem.W.nsIn K mainGlobals "InvalidNumber" = some (some (.ref C1)))
    (aC2 : PySem.W.nsIn K mainGlobals "InvalidWeb" = some (some (.ref C2)))
    (aC3 : PySem.W.nsIn K mainGlobals "Undefined" = some (some (.ref C3)))
    (aC4 : PySem.W.nsIn K mainGlobals "Web" = some (some (.ref C4)))
    (a1 : PySem.W.nsIn K mainGlobals "is_integer" = some (some (.ref f1)))
    (l1 : K.lookup f1 = some ⟨oc1, od1, .func (PySem.W.fnOf "is_integer" "is_integer" (defArgs s_is_integer) (defBody s_is_integer) (defScope s_is_integer) .none kV1 dc1 pm1 an1 cd1 ct1), sl1⟩)
    (c1 : PySem.W.codeIn K cd1 "is_integer" = true)
    (k1 : PySem.W.keepIn K (.ref f1) = true)
    (a2 : PySem.W.nsIn K mainGlobals "is_number" = some (some (.ref f2)))
    (l2 : K.lookup f2 = some ⟨oc2, od2, .func (PySem.W.fnOf "is_number" "is_number" (defArgs s_is_number) (defBody s_is_number) (defScope s_is_number) .none kV2 dc2 pm2 an2 cd2 ct2), sl2⟩)
    (c2 : PySem.W.codeIn K cd2 "is_number" = true)
    (k2 : PySem.W.keepIn K (.ref f2) = true)
    (a3 : PySem.W.nsIn K mainGlobals "is_number_below" = some (some (.ref f3)))
    (l3 : K.lookup f3 = some ⟨oc3, od3, .func (PySem.W.fnOf "is_number_below" "is_number_below" (defArgs s_is_number_below) (defBody s_is_number_below) (defScope s_is_number_below) .none kV3 dc3 pm3 an3 cd3 ct3), sl3⟩)
    (c3 : PySem.W.codeIn K cd3 "is_number_below" = true)
    (k3 : PySem.W.keepIn K (.ref f3) = true)
    (a4 : PySem.W.nsIn K mainGlobals "is_sequence" = some (some (.ref f4)))
    (l4 : K.lookup f4 = some ⟨oc4, od4, .func (PySem.W.fnOf "is_sequence" "is_sequence" (defArgs s_is_sequence) (defBody s_is_sequence) (defScope s_is_sequence) .none kV4 dc4 pm4 an4 cd4 ct4), sl4⟩)
    (c4 : PySem.W.codeIn K cd4 "is_sequence" = true)
    (k4 : PySem.W.keepIn K (.ref f4) = true)
    (a5 : PySem.W.nsIn K mainGlobals "is_pair" = some (some (.ref f5)))
    (l5 : K.lookup f5 = some ⟨oc5, od5, .func (PySem.W.fnOf "is_pair" "is_pair" (defArgs s_is_pair) (defBody s_is_pair) (defScope s_is_pair) .none kV5 dc5 pm5 an5 cd5 ct5), sl5⟩)
    (c5 : PySem.W.codeIn K cd5 "is_pair" = true)
    (k5 : PySem.W.keepIn K (.ref f5) = true)
    (a6 : PySem.W.nsIn K mainGlobals "frozen" = some (some (.ref f6)))
    (l6 : K.lookup f6 = some ⟨oc6, od6, .func (PySem.W.fnOf "frozen" "frozen" (defArgs s_frozen) (defBody s_frozen) (defScope s_frozen) .none kV6 dc6 pm6 an6 cd6 ct6), sl6⟩)
    (c6 : PySem.W.codeIn K cd6 "frozen" = true)
    (k6 : PySem.W.keepIn K (.ref f6) = true)
    (a7 : PySem.W.findIn K (.ref C1) "__init__" = some (some (.ref f7)))
    (t7 : PySem.W.typeIn K (.ref f7) = some (.type "function"))
    (l7 : K.lookup f7 = some ⟨oc7, od7, .func (PySem.W.fnOf "__init__" "InvalidNumber.__init__" (defArgs s_InvalidNumber__init) (defBody s_InvalidNumber__init) (defScope s_InvalidNumber__init) .none kV7 dc7 pm7 an7 cd7 ct7), sl7⟩)
    (c7 : PySem.W.codeIn K cd7 "InvalidNumber.__init__" = true)
    (k7 : PySem.W.keepIn K (.ref f7) = true)
    (a8 : PySem.W.findIn K (.ref C2) "__init__" = some (some (.ref f8)))
    (t8 : PySem.W.typeIn K (.ref f8) = some (.type "function"))
    (l8 : K.lookup f8 = some ⟨oc8, od8, .func (PySem.W.fnOf "__init__" "InvalidWeb.__init__" (defArgs s_InvalidWeb__init) (defBody s_InvalidWeb__init) (defScope s_InvalidWeb__init) .none kV8 dc8 pm8 an8 cd8 ct8), sl8⟩)
    (c8 : PySem.W.codeIn K cd8 "InvalidWeb.__init__" = true)
    (k8 : PySem.W.keepIn K (.ref f8) = true)
    (a9 : PySem.W.findIn K (.ref C3) "__init__" = some (some (.ref f9)))
    (t9 : PySem.W.typeIn K (.ref f9) = some (.type "function"))
    (l9 : K.lookup f9 = some ⟨oc9, od9, .func (PySem.W.fnOf "__init__" "Undefined.__init__" (defArgs s_Undefined__init) (defBody s_Undefined__init) (defScope s_Undefined__init) .none kV9 dc9 pm9 an9 cd9 ct9), sl9⟩)
    (c9 : PySem.W.codeIn K cd9 "Undefined.__init__" = true)
    (k9 : PySem.W.keepIn K (.ref f9) = true)
    (a10 : PySem.W.nsIn K mainGlobals "common_divisor" = some (some (.ref f10)))
    (l10 : K.lookup f10 = some ⟨oc10, od10, .func (PySem.W.fnOf "common_divisor" "common_divisor" (defArgs s_common_divisor) (defBody s_common_divisor) (defScope s_common_divisor) .none kV10 dc10 pm10 an10 cd10 ct10), sl10⟩)
    (c10 : PySem.W.codeIn K cd10 "common_divisor" = true)
    (k10 : PySem.W.keepIn K (.ref f10) = true)
    (a11 : PySem.W.nsIn K mainGlobals "is_share" = some (some (.ref f11)))
    (l11 : K.lookup f11 = some ⟨oc11, od11, .func (PySem.W.fnOf "is_share" "is_share" (defArgs s_is_share) (defBody s_is_share) (defScope s_is_share) .none kV11 dc11 pm11 an11 cd11 ct11), sl11⟩)
    (c11 : PySem.W.codeIn K cd11 "is_share" = true)
    (k11 : PySem.W.keepIn K (.ref f11) = true)
    (a12 : PySem.W.nsIn K mainGlobals "as_share" = some (some (.ref f12)))
    (l12 : K.lookup f12 = some ⟨oc12, od12, .func (PySem.W.fnOf "as_share" "as_share" (defArgs s_as_share) (defBody s_as_share) (defScope s_as_share) .none kV12 dc12 pm12 an12 cd12 ct12), sl12⟩)
    (c12 : PySem.W.codeIn K cd12 "as_share" = true)
    (k12 : PySem.W.keepIn K (.ref f12) = true)
    (a13 : PySem.W.nsIn K mainGlobals "reduced_pair" = some (some (.ref f13)))
    (l13 : K.lookup f13 = some ⟨oc13, od13, .func (PySem.W.fnOf "reduced_pair" "reduced_pair" (defArgs s_reduced_pair) (defBody s_reduced_pair) (defScope s_reduced_pair) .none kV13 dc13 pm13 an13 cd13 ct13), sl13⟩)
    (c13 : PySem.W.codeIn K cd13 "reduced_pair" = true)
    (k13 : PySem.W.keepIn K (.ref f13) = true)
    (a14 : PySem.W.nsIn K mainGlobals "share_of" = some (some (.ref f14)))
    (l14 : K.lookup f14 = some ⟨oc14, od14, .func (PySem.W.fnOf "share_of" "share_of" (defArgs s_share_of) (defBody s_share_of) (defScope s_share_of) .none kV14 dc14 pm14 an14 cd14 ct14), sl14⟩)
    (c14 : PySem.W.codeIn K cd14 "share_of" = true)
    (k14 : PySem.W.keepIn K (.ref f14) = true)
    (a15 : PySem.W.nsIn K mainGlobals "plus" = some (some (.ref f15)))
    (l15 : K.lookup f15 = some ⟨oc15, od15, .func (PySem.W.fnOf "plus" "plus" (defArgs s_plus) (defBody s_plus) (defScope s_plus) .none kV15 dc15 pm15 an15 cd15 ct15), sl15⟩)
    (c15 : PySem.W.codeIn K cd15 "plus" = true)
    (k15 : PySem.W.keepIn K (.ref f15) = true)
    (a16 : PySem.W.nsIn K mainGlobals "less" = some (some (.ref f16)))
    (l16 : K.lookup f16 = some ⟨oc16, od16, .func (PySem.W.fnOf "less" "less" (defArgs s_less) (defBody s_less) (defScope s_less) .none kV16 dc16 pm16 an16 cd16 ct16), sl16⟩)
    (c16 : PySem.W.codeIn K cd16 "less" = true)
    (k16 : PySem.W.keepIn K (.ref f16) = true)
    (a17 : PySem.W.nsIn K mainGlobals "times" = some (some (.ref f17)))
    (l17 : K.lookup f17 = some ⟨oc17, od17, .func (PySem.W.fnOf "times" "times" (defArgs s_times) (defBody s_times) (defScope s_times) .none kV17 dc17 pm17 an17 cd17 ct17), sl17⟩)
    (c17 : PySem.W.codeIn K cd17 "times" = true)
    (k17 : PySem.W.keepIn K (.ref f17) = true)
    (a18 : PySem.W.nsIn K mainGlobals "over" = some (some (.ref f18)))
    (l18 : K.lookup f18 = some ⟨oc18, od18, .func (PySem.W.fnOf "over" "over" (defArgs s_over) (defBody s_over) (defScope s_over) .none kV18 dc18 pm18 an18 cd18 ct18), sl18⟩)
    (c18 : PySem.W.codeIn K cd18 "over" = true)
    (k18 : PySem.W.keepIn K (.ref f18) = true)
    (a19 : PySem.W.nsIn K mainGlobals "is_below" = some (some (.ref f19)))
    (l19 : K.lookup f19 = some ⟨oc19, od19, .func (PySem.W.fnOf "is_below" "is_below" (defArgs s_is_below) (defBody s_is_below) (defScope s_is_below) .none kV19 dc19 pm19 an19 cd19 ct19), sl19⟩)
    (c19 : PySem.W.codeIn K cd19 "is_below" = true)
    (k19 : PySem.W.keepIn K (.ref f19) = true)
    (a20 : PySem.W.nsIn K mainGlobals "total_of" = some (some (.ref f20)))
    (l20 : K.lookup f20 = some ⟨oc20, od20, .func (PySem.W.fnOf "total_of" "total_of" (defArgs s_total_of) (defBody s_total_of) (defScope s_total_of) .none kV20 dc20 pm20 an20 cd20 ct20), sl20⟩)
    (c20 : PySem.W.codeIn K cd20 "total_of" = true)
    (k20 : PySem.W.keepIn K (.ref f20) = true)
    (a21 : PySem.W.nsIn K mainGlobals "is_tie" = some (some (.ref f21)))
    (l21 : K.lookup f21 = some ⟨oc21, od21, .func (PySem.W.fnOf "is_tie" "is_tie" (defArgs s_is_tie) (defBody s_is_tie) (defScope s_is_tie) .none kV21 dc21 pm21 an21 cd21 ct21), sl21⟩)
    (c21 : PySem.W.codeIn K cd21 "is_tie" = true)
    (k21 : PySem.W.keepIn K (.ref f21) = true)
    (a22 : PySem.W.nsIn K mainGlobals "is_web" = some (some (.ref f22)))
    (l22 : K.lookup f22 = some ⟨oc22, od22, .func (PySem.W.fnOf "is_web" "is_web" (defArgs s_is_web) (defBody s_is_web) (defScope s_is_web) .none kV22 dc22 pm22 an22 cd22 ct22), sl22⟩)
    (c22 : PySem.W.codeIn K cd22 "is_web" = true)
    (k22 : PySem.W.keepIn K (.ref f22) = true)
    (a23 : PySem.W.findIn K (.ref C4) "__init__" = some (some (.ref f23)))
    (i23 : PySem.W.isFn K (.ref f23) = true)
    (l23 : K.lookup f23 = some ⟨oc23, od23, .func (PySem.W.fnOf "__init__" "Web.__init__" (defArgs s_Web__init) (defBody s_Web__init) (defScope s_Web__init) .none kV23 dc23 pm23 an23 cd23 ct23), sl23⟩)
    (c23 : PySem.W.codeIn K cd23 "Web.__init__" = true)
    (k23 : PySem.W.keepIn K (.ref f23) = true)
    (a24 : PySem.W.findIn K (.ref C4) "__eq__" = some (some (.ref f24)))
    (i24 : PySem.W.isFn K (.ref f24) = true)
    (l24 : K.lookup f24 = some ⟨oc24, od24, .func (PySem.W.fnOf "__eq__" "Web.__eq__" (defArgs s_Web__eq) (defBody s_Web__eq) (defScope s_Web__eq) .none kV24 dc24 pm24 an24 cd24 ct24), sl24⟩)
    (c24 : PySem.W.codeIn K cd24 "Web.__eq__" = true)
    (k24 : PySem.W.keepIn K (.ref f24) = true)
    (a25 : PySem.W.nsIn K mainGlobals "_law_well" = some (some (.ref f25)))
    (l25 : K.lookup f25 = some ⟨oc25, od25, .func (PySem.W.fnOf "_law_well" "_law_well" (defArgs s__law_well) (defBody s__law_well) (defScope s__law_well) .none kV25 dc25 pm25 an25 cd25 ct25), sl25⟩)
    (c25 : PySem.W.codeIn K cd25 "_law_well" = true)
    (k25 : PySem.W.keepIn K (.ref f25) = true)
    (a26 : PySem.W.nsIn K mainGlobals "_law_draw" = some (some (.ref f26)))
    (l26 : K.lookup f26 = some ⟨oc26, od26, .func (PySem.W.fnOf "_law_draw" "_law_draw" (defArgs s__law_draw) (defBody s__law_draw) (defScope s__law_draw) .none kV26 dc26 pm26 an26 cd26 ct26), sl26⟩)
    (c26 : PySem.W.codeIn K cd26 "_law_draw" = true)
    (k26 : PySem.W.keepIn K (.ref f26) = true)
    (a27 : PySem.W.nsIn K mainGlobals "_law_same" = some (some (.ref f27)))
    (l27 : K.lookup f27 = some ⟨oc27, od27, .func (PySem.W.fnOf "_law_same" "_law_same" (defArgs s__law_same) (defBody s__law_same) (defScope s__law_same) .none kV27 dc27 pm27 an27 cd27 ct27), sl27⟩)
    (c27 : PySem.W.codeIn K cd27 "_law_same" = true)
    (k27 : PySem.W.keepIn K (.ref f27) = true)
    (a28 : PySem.W.nsIn K mainGlobals "_law_share" = some (some (.ref f28)))
    (l28 : K.lookup f28 = some ⟨oc28, od28, .func (PySem.W.fnOf "_law_share" "_law_share" (defArgs s__law_share) (defBody s__law_share) (defScope s__law_share) .none kV28 dc28 pm28 an28 cd28 ct28), sl28⟩)
    (c28 : PySem.W.codeIn K cd28 "_law_share" = true)
    (k28 : PySem.W.keepIn K (.ref f28) = true)
    (a29 : PySem.W.nsIn K mainGlobals "_law_drawn" = some (some (.ref f29)))
    (l29 : K.lookup f29 = some ⟨oc29, od29, .func (PySem.W.fnOf "_law_drawn" "_law_drawn" (defArgs s__law_drawn) (defBody s__law_drawn) (defScope s__law_drawn) .none kV29 dc29 pm29 an29 cd29 ct29), sl29⟩)
    (c29 : PySem.W.codeIn K cd29 "_law_drawn" = true)
    (k29 : PySem.W.keepIn K (.ref f29) = true)
    (a30 : PySem.W.nsIn K mainGlobals "_law_handed" = some (some (.ref f30)))
    (l30 : K.lookup f30 = some ⟨oc30, od30, .func (PySem.W.fnOf "_law_handed" "_law_handed" (defArgs s__law_handed) (defBody s__law_handed) (defScope s__law_handed) .none kV30 dc30 pm30 an30 cd30 ct30), sl30⟩)
    (c30 : PySem.W.codeIn K cd30 "_law_handed" = true)
    (k30 : PySem.W.keepIn K (.ref f30) = true)
    (a31 : PySem.W.nsIn K mainGlobals "_law_made_right" = some (some (.ref f31)))
    (l31 : K.lookup f31 = some ⟨oc31, od31, .func (PySem.W.fnOf "_law_made_right" "_law_made_right" (defArgs s__law_made_right) (defBody s__law_made_right) (defScope s__law_made_right) .none kV31 dc31 pm31 an31 cd31 ct31), sl31⟩)
    (c31 : PySem.W.codeIn K cd31 "_law_made_right" = true)
    (k31 : PySem.W.keepIn K (.ref f31) = true)
    (a32 : PySem.W.nsIn K mainGlobals "_law_over_right" = some (some (.ref f32)))
    (l32 : K.lookup f32 = some ⟨oc32, od32, .func (PySem.W.fnOf "_law_over_right" "_law_over_right" (defArgs s__law_over_right) (defBody s__law_over_right) (defScope s__law_over_right) .none kV32 dc32 pm32 an32 cd32 ct32), sl32⟩)
    (c32 : PySem.W.codeIn K cd32 "_law_over_right" = true)
    (k32 : PySem.W.keepIn K (.ref f32) = true)
    (a33 : PySem.W.nsIn K mainGlobals "_law_near" = some (some (.ref f33)))
    (l33 : K.lookup f33 = some ⟨oc33, od33, .func (PySem.W.fnOf "_law_near" "_law_near" (defArgs s__law_near) (defBody s__law_near) (defScope s__law_near) .none kV33 dc33 pm33 an33 cd33 ct33), sl33⟩)
    (c33 : PySem.W.codeIn K cd33 "_law_near" = true)
    (k33 : PySem.W.keepIn K (.ref f33) = true)
    (a34 : PySem.W.nsIn K mainGlobals "_law_pair_right" = some (some (.ref f34)))
    (l34 : K.lookup f34 = some ⟨oc34, od34, .func (PySem.W.fnOf "_law_pair_right" "_law_pair_right" (defArgs s__law_pair_right) (defBody s__law_pair_right) (defScope s__law_pair_right) .none kV34 dc34 pm34 an34 cd34 ct34), sl34⟩)
    (c34 : PySem.W.codeIn K cd34 "_law_pair_right" = true)
    (k34 : PySem.W.keepIn K (.ref f34) = true)
    (a35 : PySem.W.nsIn K mainGlobals "_law_whole" = some (some (.ref f35)))
    (l35 : K.lookup f35 = some ⟨oc35, od35, .func (PySem.W.fnOf "_law_whole" "_law_whole" (defArgs s__law_whole) (defBody s__law_whole) (defScope s__law_whole) .none kV35 dc35 pm35 an35 cd35 ct35), sl35⟩)
    (c35 : PySem.W.codeIn K cd35 "_law_whole" = true)
    (k35 : PySem.W.keepIn K (.ref f35) = true)
    (a36 : PySem.W.nsIn K mainGlobals "law" = some (some (.ref f36)))
    (l36 : K.lookup f36 = some ⟨oc36, od36, .func (PySem.W.fnOf "law" "law" (defArgs s_law) (defBody s_law) (defScope s_law) .none kV36 dc36 pm36 an36 cd36 ct36), sl36⟩)
    (c36 : PySem.W.codeIn K cd36 "law" = true)
    (k36 : PySem.W.keepIn K (.ref f36) = true)
    (xL0 : K.lookup C0 = some (excClassObj nm0 q0 C0 N0 bs0 [.type "ValueError", .type "Exception", .type "BaseException", .type "object"] true sn0 sub0 ab0 col0 dd0 ma0 mb0 mc0 me0 mf0 "ValueError.__new__"))
    (sa0 : PySem.W.findIn K (.ref C0) "__setattr__" = some (some (.builtin "object.__setattr__")))
    (ga0 : PySem.W.findIn K (.ref C0) "__getattribute__" = some (some (.builtin "BaseException.__getattribute__")))
    (gg0 : PySem.W.findIn K (.ref C0) "__getattr__" = some none)
    (kC0 : PySem.W.keepIn K (.ref C0) = true)
    (eC0 : PySem.W.subIn K (.ref C0) (.type "BaseException") = some true)
    (tC0 : PySem.W.typeIn K (.ref C0) = some (.type "type"))
    (hC0 : PySem.W.hasDictIn K C0 = true)
    (sC0 : PySem.W.subIn K (.ref C0) (.ref C0) = some true)
    (xL1 : K.lookup C1 = some (excClassObj nm1 q1 C1 N1 bs1 [.ref C0, .type "ValueError", .type "Exception", .type "BaseException", .type "object"] true sn1 sub1 ab1 col1 dd1 ma1 mb1 mc1 me1 mf1 "ValueError.__new__"))
    (sa1 : PySem.W.findIn K (.ref C1) "__setattr__" = some (some (.builtin "object.__setattr__")))
    (ga1 : PySem.W.findIn K (.ref C1) "__getattribute__" = some (some (.builtin "BaseException.__getattribute__")))
    (gg1 : PySem.W.findIn K (.ref C1) "__getattr__" = some none)
    (kC1 : PySem.W.keepIn K (.ref C1) = true)
    (eC1 : PySem.W.subIn K (.ref C1) (.type "BaseException") = some true)
    (tC1 : PySem.W.typeIn K (.ref C1) = some (.type "type"))
    (hC1 : PySem.W.hasDictIn K C1 = true)
    (sC1 : PySem.W.subIn K (.ref C1) (.ref C1) = some true)
    (sC1_0 : PySem.W.subIn K (.ref C1) (.ref C0) = some true)
    (no1_value : PySem.W.findIn K (.ref C1) "value" = some none)
    (xL2 : K.lookup C2 = some (excClassObj nm2 q2 C2 N2 bs2 [.ref C0, .type "ValueError", .type "Exception", .type "BaseException", .type "object"] true sn2 sub2 ab2 col2 dd2 ma2 mb2 mc2 me2 mf2 "ValueError.__new__"))
    (sa2 : PySem.W.findIn K (.ref C2) "__setattr__" = some (some (.builtin "object.__setattr__")))
    (ga2 : PySem.W.findIn K (.ref C2) "__getattribute__" = some (some (.builtin "BaseException.__getattribute__")))
    (gg2 : PySem.W.findIn K (.ref C2) "__getattr__" = some none)
    (kC2 : PySem.W.keepIn K (.ref C2) = true)
    (eC2 : PySem.W.subIn K (.ref C2) (.type "BaseException") = some true)
    (tC2 : PySem.W.typeIn K (.ref C2) = some (.type "type"))
    (hC2 : PySem.W.hasDictIn K C2 = true)
    (sC2 : PySem.W.subIn K (.ref C2) (.ref C2) = some true)
    (sC2_0 : PySem.W.subIn K (.ref C2) (.ref C0) = some true)
    (no2_value : PySem.W.findIn K (.ref C2) "value" = some none)
    (xL3 : K.lookup C3 = some (excClassObj nm3 q3 C3 N3 bs3 [.ref C0, .type "ValueError", .type "Exception", .type "BaseException", .type "object"] true sn3 sub3 ab3 col3 dd3 ma3 mb3 mc3 me3 mf3 "ValueError.__new__"))
    (sa3 : PySem.W.findIn K (.ref C3) "__setattr__" = some (some (.builtin "object.__setattr__")))
    (ga3 : PySem.W.findIn K (.ref C3) "__getattribute__" = some (some (.builtin "BaseException.__getattribute__")))
    (gg3 : PySem.W.findIn K (.ref C3) "__getattr__" = some none)
    (kC3 : PySem.W.keepIn K (.ref C3) = true)
    (eC3 : PySem.W.subIn K (.ref C3) (.type "BaseException") = some true)
    (tC3 : PySem.W.typeIn K (.ref C3) = some (.type "type"))
    (hC3 : PySem.W.hasDictIn K C3 = true)
    (sC3 : PySem.W.subIn K (.ref C3) (.ref C3) = some true)
    (sC3_0 : PySem.W.subIn K (.ref C3) (.ref C0) = some true)
    (no3_what : PySem.W.findIn K (.ref C3) "what" = some none)
    (pg4 : PySem.W.plainGet K C4 Str.empty = true)
    (hd4 : PySem.W.hasDictIn K C4 = true)
    (po4 : PySem.W.plainOver K C4 = true)
    (sb4 : PySem.W.findIn K (.ref C4) "__setattr__" = some (some (.builtin "object.__setattr__")))
    (mk4 : PySem.W.makesIn K C4 = true)
    (kc4 : PySem.W.keepIn K (.ref C4) = true)
    (ha4 : PySem.W.findIn K (.ref C4) "__class__" = some (some (.builtin "object.__class__")))
    (hn4 : PySem.W.specialIn K (.builtin "object.__class__") "__get__" = some (some (.builtin "getset_descriptor.__get__")))
    (ht4 : PySem.W.takesIn K (.builtin "object.__class__") = some true)
    (hm4 : PySem.W.mroIn K C4 (.type "object") = some true)
    (kt4_tuple : PySem.W.kitOne K (.ref C4) (.type "tuple") = some false)
    (no4_size : PySem.W.findIn K (.ref C4) "size" = some none)
    (no4_ties : PySem.W.findIn K (.ref C4) "ties" = some none)
    (aK0 : PySem.W.nsIn K mainGlobals "NOUGHT" = some (some (.ref K0)))
    (lK0 : K.lookup K0 = some ⟨.type "tuple", Kd0, .seq #[.int 0 tk0_0, .int 1 tk0_1] Kn0, Ks0⟩)
    (nb_abs : PySem.W.nsIn K mainGlobals "abs" = some none)
    (nb_len : PySem.W.nsIn K mainGlobals "len" = some none)
    (nb_range : PySem.W.nsIn K mainGlobals "range" = some none)
    (nb_int : PySem.W.nsIn K mainGlobals "int" = some none)
    (nb_str : PySem.W.nsIn K mainGlobals "str" = some none)
    (nb_isinstance : PySem.W.nsIn K mainGlobals "isinstance" = some none)
    (nb_tuple : PySem.W.nsIn K mainGlobals "tuple" = some none)
    (nb_list : PySem.W.nsIn K mainGlobals "list" = some none)
    (nb_all : PySem.W.nsIn K mainGlobals "all" = some none)
    (nb_bool : PySem.W.nsIn K mainGlobals "bool" = some none)
    (nb_ValueError : PySem.W.nsIn K mainGlobals "ValueError" = some none)
    : ∃ A : Ad, A.law = fa ∧ Txt K mg A := by
  have e := hfa.symm.trans (PySem.W.mg_of X G a36)
  cases e
  refine ⟨{ is_integer := f1, fd_is_integer := PySem.W.fnOf "is_integer" "is_integer" (defArgs s_is_integer) (defBody s_is_integer) (defScope s_is_integer) .none kV1 dc1 pm1 an1 cd1 ct1, is_number := f2, fd_is_number := PySem.W.fnOf "is_number" "is_number" (defArgs s_is_number) (defBody s_is_number) (defScope s_is_number) .none kV2 dc2 pm2 an2 cd2 ct2, is_number_below := f3, fd_is_number_below := PySem.W.fnOf "is_number_below" "is_number_below" (defArgs s_is_number_below) (defBody s_is_number_below) (defScope s_is_number_below) .none kV3 dc3 pm3 an3 cd3 ct3, is_sequence := f4, fd_is_sequence := PySem.W.fnOf "is_sequence" "is_sequence" (defArgs s_is_sequence) (defBody s_is_sequence) (defScope s_is_sequence) .none kV4 dc4 pm4 an4 cd4 ct4, is_pair := f5, fd_is_pair := PySem.W.fnOf "is_pair" "is_pair" (defArgs s_is_pair) (defBody s_is_pair) (defScope s_is_pair) .none kV5 dc5 pm5 an5 cd5 ct5, frozen := f6, fd_frozen := PySem.W.fnOf "frozen" "frozen" (defArgs s_frozen) (defBody s_frozen) (defScope s_frozen) .none kV6 dc6 pm6 an6 cd6 ct6, InvalidNumber__init := f7, fd_InvalidNumber__init := PySem.W.fnOf "__init__" "InvalidNumber.__init__" (defArgs s_InvalidNumber__init) (defBody s_InvalidNumber__init) (defScope s_InvalidNumber__init) .none kV7 dc7 pm7 an7 cd7 ct7, InvalidWeb__init := f8, fd_InvalidWeb__init := PySem.W.fnOf "__init__" "InvalidWeb.__init__" (defArgs s_InvalidWeb__init) (defBody s_InvalidWeb__init) (defScope s_InvalidWeb__init) .none kV8 dc8 pm8 an8 cd8 ct8, Undefined__init := f9, fd_Undefined__init := PySem.W.fnOf "__init__" "Undefined.__init__" (defArgs s_Undefined__init) (defBody s_Undefined__init) (defScope s_Undefined__init) .none kV9 dc9 pm9 an9 cd9 ct9, common_divisor := f10, fd_common_divisor := PySem.W.fnOf "common_divisor" "common_divisor" (defArgs s_common_divisor) (defBody s_common_divisor) (defScope s_common_divisor) .none kV10 dc10 pm10 an10 cd10 ct10, is_share := f11, fd_is_share := PySem.W.fnOf "is_share" "is_share" (defArgs s_is_share) (defBody s_is_share) (defScope s_is_share) .none kV11 dc11 pm11 an11 cd11 ct11, as_share := f12, fd_as_share := PySem.W.fnOf "as_share" "as_share" (defArgs s_as_share) (defBody s_as_share) (defScope s_as_share) .none kV12 dc12 pm12 an12 cd12 ct12, reduced_pair := f13, fd_reduced_pair := PySem.W.fnOf "reduced_pair" "reduced_pair" (defArgs s_reduced_pair) (defBody s_reduced_pair) (defScope s_reduced_pair) .none kV13 dc13 pm13 an13 cd13 ct13, share_of := f14, fd_share_of := PySem.W.fnOf "share_of" "share_of" (defArgs s_share_of) (defBody s_share_of) (defScope s_share_of) .none kV14 dc14 pm14 an14 cd14 ct14, plus := f15, fd_plus := PySem.W.fnOf "plus" "plus" (defArgs s_plus) (defBody s_plus) (defScope s_plus) .none kV15 dc15 pm15 an15 cd15 ct15, less := f16, fd_less := PySem.W.fnOf "less" "less" (defArgs s_less) (defBody s_less) (defScope s_less) .none kV16 dc16 pm16 an16 cd16 ct16, times := f17, fd_times := PySem.W.fnOf "times" "times" (defArgs s_times) (defBody s_times) (defScope s_times) .none kV17 dc17 pm17 an17 cd17 ct17, over := f18, fd_over := PySem.W.fnOf "over" "over" (defArgs s_over) (defBody s_over) (defScope s_over) .none kV18 dc18 pm18 an18 cd18 ct18, is_below := f19, fd_is_below := PySem.W.fnOf "is_below" "is_below" (defArgs s_is_below) (defBody s_is_below) (defScope s_is_below) .none kV19 dc19 pm19 an19 cd19 ct19, total_of := f20, fd_total_of := PySem.W.fnOf "total_of" "total_of" (defArgs s_total_of) (defBody s_total_of) (defScope s_total_of) .none kV20 dc20 pm20 an20 cd20 ct20, is_tie := f21, fd_is_tie := PySem.W.fnOf "is_tie" "is_tie" (defArgs s_is_tie) (defBody s_is_tie) (defScope s_is_tie) .none kV21 dc21 pm21 an21 cd21 ct21, is_web := f22, fd_is_web := PySem.W.fnOf "is_web" "is_web" (defArgs s_is_web) (defBody s_is_web) (defScope s_is_web) .none kV22 dc22 pm22 an22 cd22 ct22, Web__init := f23, fd_Web__init := PySem.W.fnOf "__init__" "Web.__init__" (defArgs s_Web__init) (defBody s_Web__init) (defScope s_Web__init) .none kV23 dc23 pm23 an23 cd23 ct23, Web__eq := f24, fd_Web__eq := PySem.W.fnOf "__eq__" "Web.__eq__" (defArgs s_Web__eq) (defBody s_Web__eq) (defScope s_Web__eq) .none kV24 dc24 pm24 an24 cd24 ct24, _law_well := f25, fd__law_well := PySem.W.fnOf "_law_well" "_law_well" (defArgs s__law_well) (defBody s__law_well) (defScope s__law_well) .none kV25 dc25 pm25 an25 cd25 ct25, _law_draw := f26, fd__law_draw := PySem.W.fnOf "_law_draw" "_law_draw" (defArgs s__law_draw) (defBody s__law_draw) (defScope s__law_draw) .none kV26 dc26 pm26 an26 cd26 ct26, _law_same := f27, fd__law_same := PySem.W.fnOf "_law_same" "_law_same" (defArgs s__law_same) (defBody s__law_same) (defScope s__law_same) .none kV27 dc27 pm27 an27 cd27 ct27, _law_share := f28, fd__law_share := PySem.W.fnOf "_law_share" "_law_share" (defArgs s__law_share) (defBody s__law_share) (defScope s__law_share) .none kV28 dc28 pm28 an28 cd28 ct28, _law_drawn := f29, fd__law_drawn := PySem.W.fnOf "_law_drawn" "_law_drawn" (defArgs s__law_drawn) (defBody s__law_drawn) (defScope s__law_drawn) .none kV29 dc29 pm29 an29 cd29 ct29, _law_handed := f30, fd__law_handed := PySem.W.fnOf "_law_handed" "_law_handed" (defArgs s__law_handed) (defBody s__law_handed) (defScope s__law_handed) .none kV30 dc30 pm30 an30 cd30 ct30, _law_made_right := f31, fd__law_made_right := PySem.W.fnOf "_law_made_right" "_law_made_right" (defArgs s__law_made_right) (defBody s__law_made_right) (defScope s__law_made_right) .none kV31 dc31 pm31 an31 cd31 ct31, _law_over_right := f32, fd__law_over_right := PySem.W.fnOf "_law_over_right" "_law_over_right" (defArgs s__law_over_right) (defBody s__law_over_right) (defScope s__law_over_right) .none kV32 dc32 pm32 an32 cd32 ct32, _law_near := f33, fd__law_near := PySem.W.fnOf "_law_near" "_law_near" (defArgs s__law_near) (defBody s__law_near) (defScope s__law_near) .none kV33 dc33 pm33 an33 cd33 ct33, _law_pair_right := f34, fd__law_pair_right := PySem.W.fnOf "_law_pair_right" "_law_pair_right" (defArgs s__law_pair_right) (defBody s__law_pair_right) (defScope s__law_pair_right) .none kV34 dc34 pm34 an34 cd34 ct34, _law_whole := f35, fd__law_whole := PySem.W.fnOf "_law_whole" "_law_whole" (defArgs s__law_whole) (defBody s__law_whole) (defScope s__law_whole) .none kV35 dc35 pm35 an35 cd35 ct35, law := fa, fd_law := PySem.W.fnOf "law" "law" (defArgs s_law) (defBody s_law) (defScope s_law) .none kV36 dc36 pm36 an36 cd36 ct36, c_CountError := C0, c_InvalidNumber := C1, c_InvalidWeb := C2, c_Undefined := C3, c_Web := C4, k_NOUGHT := K0 }, rfl, ?_⟩
  exact {
    F_is_integer := fun_mk (st := s_is_integer) l1 c1 k1
    m_is_integer := PySem.W.mg_of X G a1
    F_is_number := fun_mk (st := s_is_number) l2 c2 k2
    m_is_number := PySem.W.mg_of X G a2
    F_is_number_below := fun_mk (st := s_is_number_below) l3 c3 k3
    m_is_number_below := PySem.W.mg_of X G a3
    F_is_sequence := fun_mk (st := s_is_sequence) l4 c4 k4
    m_is_sequence := PySem.W.mg_of X G a4
    F_is_pair := fun_mk (st := s_is_pair) l5 c5 k5
    m_is_pair := PySem.W.mg_of X G a5
    F_frozen := fun_mk (st := s_frozen) l6 c6 k6
    m_frozen := PySem.W.mg_of X G a6
    F_InvalidNumber__init := fun_mk (st := s_InvalidNumber__init) l7 c7 k7
    F_InvalidWeb__init := fun_mk (st := s_InvalidWeb__init) l8 c8 k8
    F_Undefined__init := fun_mk (st := s_Undefined__init) l9 c9 k9
    F_common_divisor := fun_mk (st := s_common_divisor) l10 c10 k10
    m_common_divisor := PySem.W.mg_of X G a10
    F_is_share := fun_mk (st := s_is_share) l11 c11 k11
    m_is_share := PySem.W.mg_of X G a11
    F_as_share := fun_mk (st := s_as_share) l12 c12 k12
    m_as_share := PySem.W.mg_of X G a12
    F_reduced_pair := fun_mk (st := s_reduced_pair) l13 c13 k13
    m_reduced_pair := PySem.W.mg_of X G a13
    F_share_of := fun_mk (st := s_share_of) l14 c14 k14
    m_share_of := PySem.W.mg_of X G a14
    F_plus := fun_mk (st := s_plus) l15 c15 k15
    m_plus := PySem.W.mg_of X G a15
    F_less := fun_mk (st := s_less) l16 c16 k16
    m_less := PySem.W.mg_of X G a16
    F_times := fun_mk (st := s_times) l17 c17 k17
    m_times := PySem.W.mg_of X G a17
    F_over := fun_mk (st := s_over) l18 c18 k18
    m_over := PySem.W.mg_of X G a18
    F_is_below := fun_mk (st := s_is_below) l19 c19 k19
    m_is_below := PySem.W.mg_of X G a19
    F_total_of := fun_mk (st := s_total_of) l20 c20 k20
    m_total_of := PySem.W.mg_of X G a20
    F_is_tie := fun_mk (st := s_is_tie) l21 c21 k21
    m_is_tie := PySem.W.mg_of X G a21
    F_is_web := fun_mk (st := s_is_web) l22 c22 k22
    m_is_web := PySem.W.mg_of X G a22
    F_Web__init := fun_mk (st := s_Web__init) l23 c23 k23
    F_Web__eq := fun_mk (st := s_Web__eq) l24 c24 k24
    F__law_well := fun_mk (st := s__law_well) l25 c25 k25
    m__law_well := PySem.W.mg_of X G a25
    F__law_draw := fun_mk (st := s__law_draw) l26 c26 k26
    m__law_draw := PySem.W.mg_of X G a26
    F__law_same := fun_mk (st := s__law_same) l27 c27 k27
    m__law_same := PySem.W.mg_of X G a27
    F__law_share := fun_mk (st := s__law_share) l28 c28 k28
    m__law_share := PySem.W.mg_of X G a28
    F__law_drawn := fun_mk (st := s__law_drawn) l29 c29 k29
    m__law_drawn := PySem.W.mg_of X G a29
    F__law_handed := fun_mk (st := s__law_handed) l30 c30 k30
    m__law_handed := PySem.W.mg_of X G a30
    F__law_made_right := fun_mk (st := s__law_made_right) l31 c31 k31
    m__law_made_right := PySem.W.mg_of X G a31
    F__law_over_right := fun_mk (st := s__law_over_right) l32 c32 k32
    m__law_over_right := PySem.W.mg_of X G a32
    F__law_near := fun_mk (st := s__law_near) l33 c33 k33
    m__law_near := PySem.W.mg_of X G a33
    F__law_pair_right := fun_mk (st := s__law_pair_right) l34 c34 k34
    m__law_pair_right := PySem.W.mg_of X G a34
    F__law_whole := fun_mk (st := s__law_whole) l35 c35 k35
    m__law_whole := PySem.W.mg_of X G a35
    F_law := fun_mk (st := s_law) l36 c36 k36
    m_law := PySem.W.mg_of X G a36
    m_CountError := PySem.W.mg_of X G aC0
    te_CountError := PySem.W.exm_ref eC0 hC0 tC0 sC0
    m_InvalidNumber := PySem.W.mg_of X G aC1
    te_InvalidNumber := PySem.W.exm_ref eC1 hC1 tC1 sC1
    te_InvalidNumber_CountError := PySem.W.exm_ref eC0 hC0 tC0 sC1_0
    ox_InvalidNumber := ⟨⟨nm1, q1, N1, bs1, _, sn1, sub1, ab1, col1, dd1, ma1, mb1, mc1, me1, mf1, xL1, by first | rfl | decide +kernel⟩, sa1, eC1, tC1, kC1⟩
    xf_InvalidNumber := ⟨ga1, gg1, eC1, hC1⟩
    i_InvalidNumber := a7
    t_InvalidNumber := t7
    no_InvalidNumber_value := no1_value
    m_InvalidWeb := PySem.W.mg_of X G aC2
    te_InvalidWeb := PySem.W.exm_ref eC2 hC2 tC2 sC2
    te_InvalidWeb_CountError := PySem.W.exm_ref eC0 hC0 tC0 sC2_0
    ox_InvalidWeb := ⟨⟨nm2, q2, N2, bs2, _, sn2, sub2, ab2, col2, dd2, ma2, mb2, mc2, me2, mf2, xL2, by first | rfl | decide +kernel⟩, sa2, eC2, tC2, kC2⟩
    xf_InvalidWeb := ⟨ga2, gg2, eC2, hC2⟩
    i_InvalidWeb := a8
    t_InvalidWeb := t8
    no_InvalidWeb_value := no2_value
    m_Undefined := PySem.W.mg_of X G aC3
    te_Undefined := PySem.W.exm_ref eC3 hC3 tC3 sC3
    te_Undefined_CountError := PySem.W.exm_ref eC0 hC0 tC0 sC3_0
    ox_Undefined := ⟨⟨nm3, q3, N3, bs3, _, sn3, sub3, ab3, col3, dd3, ma3, mb3, mc3, me3, mf3, xL3, by first | rfl | decide +kernel⟩, sa3, eC3, tC3, kC3⟩
    xf_Undefined := ⟨ga3, gg3, eC3, hC3⟩
    i_Undefined := a9
    t_Undefined := t9
    no_Undefined_what := no3_what
    m_Web := PySem.W.mg_of X G aC4
    cl_Web := ⟨pg4, hd4, po4, sb4⟩
    ot_Web := ⟨⟨pg4, hd4, po4, sb4⟩, ha4, hn4, ht4, hm4⟩
    kt_Web_tuple := kt4_tuple
    mk_Web := ⟨mk4, a23, i23, kc4⟩
    me_Web__eq := ⟨a24, i24, k24⟩
    no_Web_size := no4_size
    no_Web_ties := no4_ties
    m_NOUGHT := PySem.W.mg_of X G aK0
    k_NOUGHT := fun _ => .inr ⟨_, _, _, lK0, rfl, rfl, (by rw [sizeLine_eq]; show 2 ≤ 16777216; decide), .cons ⟨_, rfl⟩ (.cons ⟨_, rfl⟩ (.nil))⟩
    b_abs := PySem.W.mg_none_of X G nb_abs
    b_len := PySem.W.mg_none_of X G nb_len
    b_range := PySem.W.mg_none_of X G nb_range
    b_int := PySem.W.mg_none_of X G nb_int
    b_str := PySem.W.mg_none_of X G nb_str
    b_isinstance := PySem.W.mg_none_of X G nb_isinstance
    b_tuple := PySem.W.mg_none_of X G nb_tuple
    b_list := PySem.W.mg_none_of X G nb_list
    b_all := PySem.W.mg_none_of X G nb_all
    b_bool := PySem.W.mg_none_of X G nb_bool
    b_ValueError := PySem.W.mg_none_of X G nb_ValueError }
theorem b_is_integer {K : PySem.W.Frag} {mg : Str → Option Value} {A : Ad} (T : Txt K mg A) : Binds K A.fd_is_integer ["value"] [] := T.F_is_integer.binds (ps := ["value"]) fun _ _ _ _ _ _ us hl => match us, hl with | [_], _ => rfl
theorem b_is_number {K : PySem.W.Frag} {mg : Str → Option Value} {A : Ad} (T : Txt K mg A) : Binds K A.fd_is_number ["value"] [] := T.F_is_number.binds (ps := ["value"]) fun _ _ _ _ _ _ us hl => match us, hl with | [_], _ => rfl
theorem b_is_number_below {K : PySem.W.Frag} {mg : Str → Option Value} {A : Ad} (T : Txt K mg A) : Binds K A.fd_is_number_below ["value", "limit"] [] := T.F_is_number_below.binds (ps := ["value", "limit"]) fun _ _ _ _ _ _ us hl => match us, hl with | [_, _], _ => rfl
theorem b_is_sequence {K : PySem.W.Frag} {mg : Str → Option Value} {A : Ad} (T : Txt K mg A) : Binds K A.fd_is_sequence ["value"] [] := T.F_is_sequence.binds (ps := ["value"]) fun _ _ _ _ _ _ us hl => match us, hl with | [_], _ => rfl
theorem b_is_pair {K : PySem.W.Frag} {mg : Str → Option Value} {A : Ad} (T : Txt K mg A) : Binds K A.fd_is_pair ["value"] [] := T.F_is_pair.binds (ps := ["value"]) fun _ _ _ _ _ _ us hl => match us, hl with | [_], _ => rfl
theorem b_frozen {K : PySem.W.Frag} {mg : Str → Option Value} {A : Ad} (T : Txt K mg A) : Binds K A.fd_frozen ["value"] [] := T.F_frozen.binds (ps := ["value"]) fun _ _ _ _ _ _ us hl => match us, hl with | [_], _ => rfl
theorem b_InvalidNumber__init {K : PySem.W.Frag} {mg : Str → Option Value} {A : Ad} (T : Txt K mg A) : Binds K A.fd_InvalidNumber__init ["self", "value"] [] := T.F_InvalidNumber__init.binds (ps := ["self", "value"]) fun _ _ _ _ _ _ us hl => match us, hl with | [_, _], _ => rfl
theorem b_InvalidWeb__init {K : PySem.W.Frag} {mg : Str → Option Value} {A : Ad} (T : Txt K mg A) : Binds K A.fd_InvalidWeb__init ["self", "value"] [] := T.F_InvalidWeb__init.binds (ps := ["self", "value"]) fun _ _ _ _ _ _ us hl => match us, hl with | [_, _], _ => rfl
theorem b_Undefined__init {K : PySem.W.Frag} {mg : Str → Option Value} {A : Ad} (T : Txt K mg A) : Binds K A.fd_Undefined__init ["self", "what"] [] := T.F_Undefined__init.binds (ps := ["self", "what"]) fun _ _ _ _ _ _ us hl => match us, hl with | [_, _], _ => rfl
theorem b_common_divisor {K : PySem.W.Frag} {mg : Str → Option Value} {A : Ad} (T : Txt K mg A) : Binds K A.fd_common_divisor ["a", "b"] [] := T.F_common_divisor.binds (ps := ["a", "b"]) fun _ _ _ _ _ _ us hl => match us, hl with | [_, _], _ => rfl
theorem b_is_share {K : PySem.W.Frag} {mg : Str → Option Value} {A : Ad} (T : Txt K mg A) : Binds K A.fd_is_share ["value"] [] := T.F_is_share.binds (ps := ["value"]) fun _ _ _ _ _ _ us hl => match us, hl with | [_], _ => rfl
theorem b_as_share {K : PySem.W.Frag} {mg : Str → Option Value} {A : Ad} (T : Txt K mg A) : Binds K A.fd_as_share ["value"] [] := T.F_as_share.binds (ps := ["value"]) fun _ _ _ _ _ _ us hl => match us, hl with | [_], _ => rfl
theorem b_reduced_pair {K : PySem.W.Frag} {mg : Str → Option Value} {A : Ad} (T : Txt K mg A) : Binds K A.fd_reduced_pair ["a", "b"] [] := T.F_reduced_pair.binds (ps := ["a", "b"]) fun _ _ _ _ _ _ us hl => match us, hl with | [_, _], _ => rfl
theorem b_share_of {K : PySem.W.Frag} {mg : Str → Option Value} {A : Ad} (T : Txt K mg A) : Binds K A.fd_share_of ["a", "b"] [] := T.F_share_of.binds (ps := ["a", "b"]) fun _ _ _ _ _ _ us hl => match us, hl with | [_, _], _ => rfl
theorem b_plus {K : PySem.W.Frag} {mg : Str → Option Value} {A : Ad} (T : Txt K mg A) : Binds K A.fd_plus ["one", "other"] [] := T.F_plus.binds (ps := ["one", "other"]) fun _ _ _ _ _ _ us hl => match us, hl with | [_, _], _ => rfl
theorem b_less {K : PySem.W.Frag} {mg : Str → Option Value} {A : Ad} (T : Txt K mg A) : Binds K A.fd_less ["one", "other"] [] := T.F_less.binds (ps := ["one", "other"]) fun _ _ _ _ _ _ us hl => match us, hl with | [_, _], _ => rfl
theorem b_times {K : PySem.W.Frag} {mg : Str → Option Value} {A : Ad} (T : Txt K mg A) : Binds K A.fd_times ["one", "other"] [] := T.F_times.binds (ps := ["one", "other"]) fun _ _ _ _ _ _ us hl => match us, hl with | [_, _], _ => rfl
theorem b_over {K : PySem.W.Frag} {mg : Str → Option Value} {A : Ad} (T : Txt K mg A) : Binds K A.fd_over ["one", "other"] [] := T.F_over.binds (ps := ["one", "other"]) fun _ _ _ _ _ _ us hl => match us, hl with | [_, _], _ => rfl
theorem b_is_below {K : PySem.W.Frag} {mg : Str → Option Value} {A : Ad} (T : Txt K mg A) : Binds K A.fd_is_below ["one", "other"] [] := T.F_is_below.binds (ps := ["one", "other"]) fun _ _ _ _ _ _ us hl => match us, hl with | [_, _], _ => rfl
theorem b_total_of {K : PySem.W.Frag} {mg : Str → Option Value} {A : Ad} (T : Txt K mg A) : Binds K A.fd_total_of ["shares"] [] := T.F_total_of.binds (ps := ["shares"]) fun _ _ _ _ _ _ us hl => match us, hl with | [_], _ => rfl
theorem b_is_tie {K : PySem.W.Frag} {mg : Str → Option Value} {A : Ad} (T : Txt K mg A) : Binds K A.fd_is_tie ["value", "size"] [] := T.F_is_tie.binds (ps := ["value", "size"]) fun _ _ _ _ _ _ us hl => match us, hl with | [_, _], _ => rfl
theorem b_is_web {K : PySem.W.Frag} {mg : Str → Option Value} {A : Ad} (T : Txt K mg A) : Binds K A.fd_is_web ["size", "ties"] [] := T.F_is_web.binds (ps := ["size", "ties"]) fun _ _ _ _ _ _ us hl => match us, hl with | [_, _], _ => rfl
theorem b_Web__init {K : PySem.W.Frag} {mg : Str → Option Value} {A : Ad} (T : Txt K mg A) : Binds K A.fd_Web__init ["self", "size", "ties"] [] := T.F_Web__init.binds (ps := ["self", "size", "ties"]) fun _ _ _ _ _ _ us hl => match us, hl with | [_, _, _], _ => rfl
theorem b_Web__eq {K : PySem.W.Frag} {mg : Str → Option Value} {A : Ad} (T : Txt K mg A) : Binds K A.fd_Web__eq ["self", "other"] [] := T.F_Web__eq.binds (ps := ["self", "other"]) fun _ _ _ _ _ _ us hl => match us, hl with | [_, _], _ => rfl
theorem b__law_well {K : PySem.W.Frag} {mg : Str → Option Value} {A : Ad} (T : Txt K mg A) : Binds K A.fd__law_well ["script", "k"] [] := T.F__law_well.binds (ps := ["script", "k"]) fun _ _ _ _ _ _ us hl => match us, hl with | [_, _], _ => rfl
theorem b__law_draw {K : PySem.W.Frag} {mg : Str → Option Value} {A : Ad} (T : Txt K mg A) : Binds K A.fd__law_draw ["well", "many"] [] := T.F__law_draw.binds (ps := ["well", "many"]) fun _ _ _ _ _ _ us hl => match us, hl with | [_, _], _ => rfl
theorem b__law_same {K : PySem.W.Frag} {mg : Str → Option Value} {A : Ad} (T : Txt K mg A) : Binds K A.fd__law_same ["came", "due"] [] := T.F__law_same.binds (ps := ["came", "due"]) fun _ _ _ _ _ _ us hl => match us, hl with | [_, _], _ => rfl
theorem b__law_share {K : PySem.W.Frag} {mg : Str → Option Value} {A : Ad} (T : Txt K mg A) : Binds K A.fd__law_share ["top", "bottom"] [] := T.F__law_share.binds (ps := ["top", "bottom"]) fun _ _ _ _ _ _ us hl => match us, hl with | [_, _], _ => rfl
theorem b__law_drawn {K : PySem.W.Frag} {mg : Str → Option Value} {A : Ad} (T : Txt K mg A) : Binds K A.fd__law_drawn ["well"] [] := T.F__law_drawn.binds (ps := ["well"]) fun _ _ _ _ _ _ us hl => match us, hl with | [_], _ => rfl
theorem b__law_handed {K : PySem.W.Frag} {mg : Str → Option Value} {A : Ad} (T : Txt K mg A) : Binds K A.fd__law_handed ["well", "share"] [] := T.F__law_handed.binds (ps := ["well", "share"]) fun _ _ _ _ _ _ us hl => match us, hl with | [_, _], _ => rfl
theorem b__law_made_right {K : PySem.W.Frag} {mg : Str → Option Value} {A : Ad} (T : Txt K mg A) : Binds K A.fd__law_made_right ["well"] [] := T.F__law_made_right.binds (ps := ["well"]) fun _ _ _ _ _ _ us hl => match us, hl with | [_], _ => rfl
theorem b__law_over_right {K : PySem.W.Frag} {mg : Str → Option Value} {A : Ad} (T : Txt K mg A) : Binds K A.fd__law_over_right ["well", "one", "other"] [] := T.F__law_over_right.binds (ps := ["well", "one", "other"]) fun _ _ _ _ _ _ us hl => match us, hl with | [_, _, _], _ => rfl
theorem b__law_near {K : PySem.W.Frag} {mg : Str → Option Value} {A : Ad} (T : Txt K mg A) : Binds K A.fd__law_near ["well", "one"] [] := T.F__law_near.binds (ps := ["well", "one"]) fun _ _ _ _ _ _ us hl => match us, hl with | [_, _], _ => rfl
theorem b__law_pair_right {K : PySem.W.Frag} {mg : Str → Option Value} {A : Ad} (T : Txt K mg A) : Binds K A.fd__law_pair_right ["well", "one", "other"] [] := T.F__law_pair_right.binds (ps := ["well", "one", "other"]) fun _ _ _ _ _ _ us hl => match us, hl with | [_, _, _], _ => rfl
theorem b__law_whole {K : PySem.W.Frag} {mg : Str → Option Value} {A : Ad} (T : Txt K mg A) : Binds K A.fd__law_whole ["script"] [] := T.F__law_whole.binds (ps := ["script"]) fun _ _ _ _ _ _ us hl => match us, hl with | [_], _ => rfl
theorem b_law {K : PySem.W.Frag} {mg : Str → Option Value} {A : Ad} (T : Txt K mg A) : Binds K A.fd_law ["script"] [] := T.F_law.binds (ps := ["script"]) fun _ _ _ _ _ _ us hl => match us, hl with | [_], _ => rfl
end Pf

namespace Pf
open PySem L2 Dl Sh
local macro_rules | `(tactic| walk_at "r0") => `(tactic| with_reducible first
  | refine sw_seq ?_
  | refine ew_var rfl ?_
  | refine ew_int ?_
  | refine ew_bl ?_
  | refine ew_non ?_
  | refine ew_str ?_
  | refine aw_cons ?_
  | refine aw_nil ?_
  | refine sw_par ?_
  | refine sw_next ?_
  | refine sw_if ?_
  | refine sw_ret ?_
  | refine tw_not ?_
  | refine tw_and ?_
  | refine tw_or ?_
  | refine tw_test ?_
  | refine tw_B ?_
  | refine tw_tru rfl ?_
  | refine ew_andV ?_
  | refine ew_orV ?_
  | refine ew_notV ?_
  | refine ew_if ?_
  | refine ew_chain ?_
  | refine ew_isN ?_
  | refine ew_tup ?_
  | refine ew_lst ?_
  | refine ew_isi rfl ?_
  | refine ew_isi2 rfl ?_
  | refine ew_cb ?_
  | refine ew_neg ?_
  | refine ew_op ?_
  | refine ⟨_, opv_int, ?_⟩
  | refine ⟨_, opv_cmp, ?_⟩
  | refine ⟨_, opv_eq, ?_⟩
  | refine ⟨_, opv_ne, ?_⟩
  | refine ⟨_, opv_eqB, ?_⟩
  | refine ⟨_, opv_eqS, ?_⟩
  | refine ⟨_, cbv_abs, ?_⟩
  | refine ⟨_, cbv_int, ?_⟩
  | refine ⟨_, rfl, ?_⟩
  | refine ⟨_, _, rfl, ?_⟩
  | refine br_t ?_
  | refine br_f ?_
  | refine sw_asg ?_)
local macro_rules | `(tactic| walk_at "r1") => `(tactic| first
  | walk_at "r0"
  | ((with_reducible refine ew_callP ?hK trivial ?_); (case hK => rfl))
  | ((with_reducible refine ew_callH ?hK trivial ?_); (case hK => rfl))
  | ((with_reducible refine ew_callR ?hK ?hF ?_); (case hK => rfl); (case hF => assumption))
  | ((with_reducible refine len_ok ?hK ?_); (case hK => rfl))
  | ((with_reducible refine sw_unp2 ?hK ?hn ?_); (case hK => rfl); (case hn => rfl)))
local macro_rules | `(tactic| walk_at "side") => `(tactic| first
  | exact Or.inr (by decide)
  | exact Or.inl (by decide)
  | exact ⟨by decide, by decide⟩
  | exact ⟨by decide, by decide, by decide⟩
  | decide
  | (dsimp only; decide)
  | exact mw (by assumption) (by assumption))
local macro_rules | `(tactic| walk_at "r2") => `(tactic| first
  | walk_at "r1"
  | ((with_reducible refine ⟨_, opv_intC ?hC, ?_⟩); (case hC => walk_at "side"))
  | ((with_reducible refine ⟨_, cbv_lenL ?hK, ?_⟩); (case hK => rfl))
  | ((with_reducible refine ⟨_, cbv_lenT ?hK, ?_⟩); (case hK => rfl))
  | (with_reducible refine ⟨_, opv_ixT (by with_unfolding_all rfl) (by with_unfolding_all rfl), ?_⟩)
  | refine br_t ?_
  | refine br_f ?_)
local macro_rules | `(tactic| walk_at "rd") => `(tactic| repeat (walk_at "r2"))
local macro_rules | `(tactic| walk_at "rs") => `(tactic| repeat ((fail_if_success (with_reducible refine sw_isif ?_)); walk_at "r2"))
local macro_rules | `(tactic| walk_at "nf") => `(tactic| (try simp only [List.set_cons_zero, List.set_cons_succ, Dl.sets, Dl.asD]))

abbrev c_is_integer : Cn := fun K w ds Ψ Ξ => ∃ d, ds = [d] ∧ Kn d ∧ Ψ (.fz (.bl (isIntD d)))
theorem l_is_integer : ∀ K w ds Ψ Ξ, c_is_integer K w ds Ψ Ξ → ds.length = 1 := fun K w ds Ψ Ξ h => by
  obtain ⟨_, rfl, _⟩ := h
  rfl
theorem ok_is_integer {P : Program} {w : World} {K : PySem.W.Frag} {mg : Str → Option Value} {base : Heap} {A : Ad} (T : Txt K mg A) : FnOk P w K mg base CX0 1 A.is_integer A.fd_is_integer ["value"] (SpD K AnyR c_is_integer) := by
  refine Fun.ok T.F_is_integer sc_is_integer (fun vs H Q E h => spd_len (l_is_integer) h) (fun cdv A' outer s H vs Q E hr h => ⟨_, (pss_one (ps_ret (pe_and (pe_callB call_isi (by rfl) T.b_isinstance (by decide +kernel) (pa_cons (pv 0) (pa_cons (pe_bltn (v := .ty "int") (by rfl) T.b_int (by decide +kernel) rfl) pa_nil))) (pe_one (pe_not (pe_callB call_isi (by rfl) T.b_isinstance (by decide +kernel) (pa_cons (pv 0) (pa_cons (pe_bltn (v := .ty "bool") (by rfl) T.b_bool (by decide +kernel) rfl) pa_nil)))))))), ?_⟩)
  refine body_ok 1 (by decide) (l_is_integer) h (fun Γ ds Ψ Ξ hK hX hF hc ke => ?_)
  subst hK
  obtain ⟨d, rfl, ⟨t, ht⟩, hc⟩ := hc
  walk_at "rd"
  refine ⟨t, _, ht, kit_int ht, _, rfl, fun h1 => ?_, fun h1 => ?_⟩
  · walk_at "rd"
    refine ⟨t, _, ht, kit_bool ht, _, rfl, ?_⟩
    have e : (!isBlD d) = isIntD d := by cases d <;> first | rfl | cases h1
    rw [e]
    exact hc
  · have e : false = isIntD d := by cases d <;> first | rfl | cases h1
    rw [e]
    exact hc
def isNumD : D → Bool | .int i => decide (0 ≤ i) | _ => false
abbrev c_is_number : Cn := fun K w ds Ψ Ξ => ∃ d, ds = [d] ∧ Kn d ∧ Ψ (.fz (.bl (isNumD d)))
theorem l_is_number : ∀ K w ds Ψ Ξ, c_is_number K w ds Ψ Ξ → ds.length = 1 := fun K w ds Ψ Ξ h => by
  obtain ⟨_, rfl, _⟩ := h
  rfl
theorem ok_is_number {P : Program} {w : World} {K : PySem.W.Frag} {mg : Str → Option Value} {base : Heap} {A : Ad} (T : Txt K mg A) : FnOk P w K mg base CX0 2 A.is_number A.fd_is_number ["value"] (SpD K AnyR c_is_number) := by
  refine Fun.ok T.F_is_number sc_is_number (fun vs H Q E h => spd_len (l_is_number) h) (fun cdv A' outer s H vs Q E hr h => ⟨_, (pss_one (ps_ret (pe_and (pe_call (ok_is_integer T) (hr.mono (by decide)) (by rfl) T.m_is_integer T.F_is_integer.kp (b_is_integer T) .nil pass0 (pa_cons (pv 0) pa_nil)) (pe_one (pe_cmpR op_ge (pv 0) pe_int (nomark _)))))), ?_⟩)
  refine body_ok 1 (by decide) (l_is_number) h (fun Γ ds Ψ Ξ hK hX hF hc ke => ?_)
  subst hK
  obtain ⟨d, rfl, ht, hc⟩ := hc
  walk_at "rd"
  refine ⟨ht, _, rfl, fun h1 => ?_, fun h1 => ?_⟩
  · cases d <;> first | (cases h1; done) | skip
    walk_at "rd"
    exact hc
  · have e : false = isNumD d := by cases d <;> first | rfl | cases h1
    rw [e]
    exact hc
def isBelD (n : Int) : D → Bool | .int i => decide (0 ≤ i) && decide (i < n) | _ => false
abbrev c_is_number_below : Cn := fun K w ds Ψ Ξ => ∃ d n, ds = [d, .int n] ∧ Kn d ∧ Ψ (.fz (.bl (isBelD n d)))
theorem l_is_number_below : ∀ K w ds Ψ Ξ, c_is_number_below K w ds Ψ Ξ → ds.length = 2 := fun K w ds Ψ Ξ h => by
  obtain ⟨_, _, rfl, _⟩ := h
  rfl
theorem ok_is_number_below {P : Program} {w : World} {K : PySem.W.Frag} {mg : Str → Option Value} {base : Heap} {A : Ad} (T : Txt K mg A) : FnOk P w K mg base CX0 2 A.is_number_below A.fd_is_number_below ["value", "limit"] (SpD K AnyR c_is_number_below) := by
  refine Fun.ok T.F_is_number_below sc_is_number_below (fun vs H Q E h => spd_len (l_is_number_below) h) (fun cdv A' outer s H vs Q E hr h => ⟨_, (pss_one (ps_ret (pe_and (pe_call (ok_is_integer T) (hr.mono (by decide)) (by rfl) T.m_is_integer T.F_is_integer.kp (b_is_integer T) .nil pass0 (pa_cons (pv 0) pa_nil)) (pe_one (pe_chain op_le op_lt pe_int (pv 0) (pv 1)))))), ?_⟩)
  refine body_ok 2 (by decide) (l_is_number_below) h (fun Γ ds Ψ Ξ hK hX hF hc ke => ?_)
  subst hK
  obtain ⟨d, n, rfl, ht, hc⟩ := hc
  walk_at "rd"
  refine ⟨ht, _, rfl, fun h1 => ?_, fun h1 => ?_⟩
  · cases d <;> first | (cases h1; done) | skip
    rename_i i
    walk_at "rd"
    refine ⟨fun h2 => ?_, fun h2 => ?_⟩
    · walk_at "rd"
      have e : decide (i < n) = isBelD n (.int i) := by
        show _ = (decide (0 ≤ i) && decide (i < n))
        rw [h2]
        rfl
      rw [e]
      exact hc
    · have e : false = isBelD n (.int i) := by
        show _ = (decide (0 ≤ i) && decide (i < n))
        rw [h2]
        rfl
      rw [e]
      exact hc
  · have e : false = isBelD n d := by cases d <;> first | rfl | cases h1
    rw [e]
    exact hc
abbrev c_is_sequence : Cn := fun K w ds Ψ Ξ => ∃ d, ds = [d] ∧ Kn d ∧ Ψ (.fz (.bl (isLstD d || isTupD d)))
theorem l_is_sequence : ∀ K w ds Ψ Ξ, c_is_sequence K w ds Ψ Ξ → ds.length = 1 := fun K w ds Ψ Ξ h => by
  obtain ⟨_, rfl, _⟩ := h
  rfl
theorem ok_is_sequence {P : Program} {w : World} {K : PySem.W.Frag} {mg : Str → Option Value} {base : Heap} {A : Ad} (T : Txt K mg A) : FnOk P w K mg base CX0 1 A.is_sequence A.fd_is_sequence ["value"] (SpD K AnyR c_is_sequence) := by
  refine Fun.ok T.F_is_sequence sc_is_sequence (fun vs H Q E h => spd_len (l_is_sequence) h) (fun cdv A' outer s H vs Q E hr h => ⟨_, (pss_one (ps_ret (pe_callB call_isiT (by rfl) T.b_isinstance (by decide +kernel) (pa_cons (pv 0) (pa_cons (pe_tup (pa_cons (pe_bltn (v := .ty "list") (by rfl) T.b_list (by decide +kernel) rfl) (pa_cons (pe_bltn (v := .ty "tuple") (by rfl) T.b_tuple (by decide +kernel) rfl) pa_nil))) pa_nil))))), ?_⟩)
  refine body_ok 1 (by decide) (l_is_sequence) h (fun Γ ds Ψ Ξ hK hX hF hc ke => ?_)
  subst hK
  obtain ⟨d, rfl, ⟨t, ht⟩, hc⟩ := hc
  walk_at "rd"
  exact ⟨t, _, _, ht, kit_list ht, kit_tuple ht, hc⟩
def isPairD : D → Bool | .tup ds => decide (ds.length = 2) | _ => false
abbrev c_is_pair : Cn := fun K w ds Ψ Ξ => ∃ d, ds = [d] ∧ (Kn d ∨ ∃ C fs, d = .obj C fs ∧ ObjTy K C ∧ PySem.W.kitOne K (.ref C) (.type "tuple") = some false) ∧ Ψ (.fz (.bl (isPairD d)))
theorem l_is_pair : ∀ K w ds Ψ Ξ, c_is_pair K w ds Ψ Ξ → ds.length = 1 := fun K w ds Ψ Ξ h => by
  obtain ⟨_, rfl, _⟩ := h
  rfl
theorem ok_is_pair {P : Program} {w : World} {K : PySem.W.Frag} {mg : Str → Option Value} {base : Heap} {A : Ad} (T : Txt K mg A) : FnOk P w K mg base CX0 1 A.is_pair A.fd_is_pair ["value"] (SpD K AnyR c_is_pair) := by
  refine Fun.ok T.F_is_pair sc_is_pair (fun vs H Q E h => spd_len (l_is_pair) h) (fun cdv A' outer s H vs Q E hr h => ⟨_, (pss_one (ps_ret (pe_and (pe_callB call_isi (by rfl) T.b_isinstance (by decide +kernel) (pa_cons (pv 0) (pa_cons (pe_bltn (v := .ty "tuple") (by rfl) T.b_tuple (by decide +kernel) rfl) pa_nil))) (pe_one (pe_cmpR op_eq (pe_callB call_len_seq (by rfl) T.b_len (by decide +kernel) (pa_cons (pv 0) pa_nil)) pe_int (nomark _)))))), ?_⟩)
  refine body_ok 1 (by decide) (l_is_pair) h (fun Γ ds Ψ Ξ hK hX hF hc ke => ?_)
  subst hK
  obtain ⟨d, rfl, ht, hc⟩ := hc
  refine sw_ret (ew_andV ?_)
  rcases ht with ⟨t, ht⟩ | ⟨C, fs, rfl, h1, h2⟩
  · refine ew_isi rfl (ew_var rfl ⟨t, _, ht, kit_tuple ht, _, rfl, fun h1 => ?_, fun h1 => ?_⟩)
    · cases d <;> first | (cases h1; done) | skip
      rename_i ds
      refine ew_op (ew_cb (aw_cons (ew_var rfl (aw_nil ⟨_, cbv_lenT rfl, ?_⟩))))
      walk_at "rd"
      have e : decide ((ds.length : Int) = 2) = isPairD (.tup ds) := by
        show _ = decide (ds.length = 2)
        by_cases h : ds.length = 2
        · rw [h]; rfl
        · rw [decide_eq_false h, decide_eq_false (by omega)]
      rw [e]
      exact hc
    · have e : false = isPairD d := by cases d <;> first | rfl | cases h1
      rw [e]
      exact hc
  · refine ew_isiO rfl (ew_var rfl ⟨C, fs, _, rfl, h1, h2, _, rfl, fun h1 => (by cases h1), fun _ => hc⟩)
abbrev c_common_divisor : Cn := fun K w ds Ψ Ξ => ∃ a b : Int, ds = [.int a, .int b] ∧ Ψ (.fz (.int (gi a b)))
theorem abs_if (a : Int) : (if a < 0 then -a else a) = (a.natAbs : Int) := by split <;> omega
theorem l_common_divisor : ∀ K w ds Ψ Ξ, c_common_divisor K w ds Ψ Ξ → ds.length = 2 := fun K w ds Ψ Ξ h => by
  obtain ⟨_, _, rfl, _⟩ := h
  rfl
theorem ok_common_divisor {P : Program} {w : World} {K : PySem.W.Frag} {mg : Str → Option Value} {base : Heap} {A : Ad} (T : Txt K mg A) : FnOk P w K mg base CX0 1 A.common_divisor A.fd_common_divisor ["a", "b"] (SpD K AnyR c_common_divisor) := by
  refine Fun.ok T.F_common_divisor sc_common_divisor (fun vs H Q E h => spd_len (l_common_divisor) h) (fun cdv A' outer s H vs Q E hr h => ⟨_, (pss_cons (ps_par (i := 0) (j := 1) (by rfl) sc_common_divisor.nd rfl rfl (by decide) rfl rfl (pa_cons (pe_callB call_abs (by rfl) T.b_abs (by decide +kernel) (pa_cons (pv 0) pa_nil)) (pa_cons (pe_callB call_abs (by rfl) T.b_abs (by decide +kernel) (pa_cons (pv 1) pa_nil)) pa_nil)) (by rfl))
        (pss_cons (ps_while PassesOwn.never (pt_truth (pv 1) (by intro _; rfl)) (pss_one (ps_par (i := 0) (j := 1) (by rfl) sc_common_divisor.nd rfl rfl (by decide) rfl rfl (pa_cons (pv 1) (pa_cons (pe_op op_mod (pv 0) (pv 1)) pa_nil)) (by rfl))))
        (pss_one (ps_ret (pv 0))))), ?_⟩)
  refine body_ok 2 (by decide) (l_common_divisor) h (fun Γ ds Ψ Ξ hK hX hF hc ke => ?_)
  subst hK
  obtain ⟨a, b, rfl, hc⟩ := hc
  walk_at "rd"
  refine sw_while (fun m ρ => ∃ x y : Int, ρ = [some (.fz (.int x)), some (.fz (.int y))] ∧ 0 ≤ x ∧ 0 ≤ y ∧ gi x y = gi a b ∧ m = y.toNat) _ ⟨_, _, rfl, ?_, ?_, ?_, rfl⟩ ?_
  · rw [abs_if]; omega
  · rw [abs_if]; omega
  · rw [abs_if, abs_if, gi_abs]
  · rintro m ρ' ⟨x, y, rfl, hx, hy, hg, rfl⟩
    walk_at "rd"
    refine ⟨fun h1 => ?_, fun h1 => ?_⟩
    · have hy0 : 0 < y := by
        have : y ≠ 0 := by simpa using h1
        omega
      walk_at "rd"
      refine ⟨_, opv_intC hy0, ?_⟩
      walk_at "rd"
      refine ⟨_, ?_, y, x % y, rfl, hy, Int.emod_nonneg _ (by omega), by rw [gi_mod hx hy0]; exact hg, rfl⟩
      have := Int.emod_lt_of_pos x hy0
      have := Int.emod_nonneg x (show y ≠ 0 by omega)
      omega
    · have hy0 : y = 0 := by simpa using h1
      subst hy0
      rw [gi_zero hx] at hg
      subst hg
      walk_at "rd"
      exact hc
def isShD : D → Bool | .tup [.int a, .int b] => decide (0 < b) && decide (gi a b = 1) | _ => false
theorem isSh_len : ∀ {ds : List D}, ds.length ≠ 2 → isShD (.tup ds) = false
  | [], _ => rfl
  | [x], _ => by cases x <;> rfl
  | [_, _], h => absurd rfl h
  | x :: y :: _ :: _, _ => by cases x <;> first | rfl | (cases y <;> rfl)
abbrev c_is_share : Cn := fun K w ds Ψ Ξ => ∃ d, ds = [d] ∧ (Kn d ∨ ∃ C fs, d = .obj C fs ∧ ObjTy K C ∧ PySem.W.kitOne K (.ref C) (.type "tuple") = some false) ∧ (∀ x y, d = .tup [x, y] → Kn x ∧ Kn y) ∧ Ψ (.fz (.bl (isShD d)))
theorem l_is_share : ∀ K w ds Ψ Ξ, c_is_share K w ds Ψ Ξ → ds.length = 1 := fun K w ds Ψ Ξ h => by
  obtain ⟨_, rfl, _⟩ := h
  rfl
theorem ok_is_share {P : Program} {w : World} {K : PySem.W.Frag} {mg : Str → Option Value} {base : Heap} {A : Ad} (T : Txt K mg A) : FnOk P w K mg base CX0 2 A.is_share A.fd_is_share ["value"] (SpD K AnyR c_is_share) := by
  refine Fun.ok T.F_is_share sc_is_share (fun vs H Q E h => spd_len (l_is_share) h) (fun cdv A' outer s H vs Q E hr h => ⟨_, (pss_cons (ps_if (pt_not (pt_val (pe_call (ok_is_pair T) (hr.mono (by decide)) (by rfl) T.m_is_pair T.F_is_pair.kp (b_is_pair T) .nil pass0 (pa_cons (pv 0) pa_nil)))) (pss_one (ps_ret pe_bl)) pss_nil)
        (pss_cons (ps_asg (pv 0) (pg_tup (by rfl) (pgs_cons (pg_name (i := 1) sc_is_share.nd rfl (.inl rfl)) (pgs_cons (pg_name (i := 2) sc_is_share.nd rfl (.inl rfl)) pgs_nil))))
        (pss_cons (ps_if (PW.pt (pw_or (pt_not (pt_val (pe_call (ok_is_integer T) (hr.mono (by decide)) (by rfl) T.m_is_integer T.F_is_integer.kp (b_is_integer T) .nil pass0 (pa_cons (pv 1) pa_nil)))) (pw_or1 (pt_not (pt_val (pe_call (ok_is_integer T) (hr.mono (by decide)) (by rfl) T.m_is_integer T.F_is_integer.kp (b_is_integer T) .nil pass0 (pa_cons (pv 2) pa_nil))))))) (pss_one (ps_ret pe_bl)) pss_nil)
        (pss_one (ps_ret (pe_and (pe_cmpR op_gt (pv 2) pe_int (nomark _)) (pe_one (pe_cmpR op_eq (pe_call (ok_common_divisor T) (hr.mono (by decide)) (by rfl) T.m_common_divisor T.F_common_divisor.kp (b_common_divisor T) .nil pass0 (pa_cons (pv 1) (pa_cons (pv 2) pa_nil))) pe_int (nomark _))))))))), ?_⟩)
  refine body_ok 1 (by decide) (l_is_share) h (fun Γ ds Ψ Ξ hK hX hF hc ke => ?_)
  subst hK
  obtain ⟨d, rfl, ht, hk, hc⟩ := hc
  walk_at "rd"
  refine ⟨ht, _, rfl, fun h1 => ?_, fun h1 => ?_⟩
  · walk_at "rd"
    have e : false = isShD d := by
      cases d <;> first | rfl | skip
      rename_i ds
      refine (isSh_len fun h => ?_).symm
      have h2 : isPairD (.tup ds) = true := decide_eq_true h
      rw [h2] at h1
      cases h1
    rw [e]
    exact hc
  · have h2 : isPairD d = true := by simpa using h1
    cases d <;> first | (cases h2; done) | skip
    rename_i ds
    match ds, of_decide_eq_true (show decide (ds.length = 2) = true from h2) with
    | [x, y], _ =>
      obtain ⟨kx, ky⟩ := hk x y rfl
      walk_at "rd"
      refine ⟨kx, _, rfl, fun h3 => ?_, fun h3 => ?_⟩
      · walk_at "rd"
        have e : false = isShD (.tup [x, y]) := by cases x <;> first | rfl | cases h3
        rw [e]
        exact hc
      · walk_at "rd"
        refine ⟨ky, _, rfl, fun h4 => ?_, fun h4 => ?_⟩
        · walk_at "rd"
          have e : false = isShD (.tup [x, y]) := by
            cases x <;> first | rfl | (cases h3; done) | skip
            cases y <;> first | rfl | cases h4
          rw [e]
          exact hc
        · cases x <;> first | (cases h3; done) | skip
          cases y <;> first | (cases h4; done) | skip
          rename_i a b _
          walk_at "rd"
          refine ⟨fun h5 => ?_, fun h5 => ?_⟩
          · walk_at "rd"
            have e : decide (gi a b = 1) = isShD (.tup [.int a, .int b]) := by
              show _ = (decide (0 < b) && decide (gi a b = 1))
              rw [h5, Bool.true_and]
            rw [e]
            exact hc
          · have e : false = isShD (.tup [.int a, .int b]) := by
              show _ = (decide (0 < b) && decide (gi a b = 1))
              rw [h5, Bool.false_and]
            rw [e]
            exact hc
@[reducible] def shD (p : Int × Int) : D := .tup [.int p.1, .int p.2]
/-- a share or the integer that it is -/
inductive AsSh : D → Int × Int → Prop
  | sh (p : Int × Int) : AsSh (shD p) p
  | int (i : Int) : AsSh (.int i) (i, 1)
theorem AsSh.kn {d : D} {p : Int × Int} (h : AsSh d p) : Kn d := by cases h <;> exact ⟨_, rfl⟩
abbrev c_as_share : Cn := fun K w ds Ψ Ξ => ∃ d p, ds = [d] ∧ AsSh d p ∧ Ψ (.fz (shD p))
theorem l_as_share : ∀ K w ds Ψ Ξ, c_as_share K w ds Ψ Ξ → ds.length = 1 := fun K w ds Ψ Ξ h => by
  obtain ⟨_, _, rfl, _⟩ := h
  rfl
theorem ok_as_share {P : Program} {w : World} {K : PySem.W.Frag} {mg : Str → Option Value} {base : Heap} {A : Ad} (T : Txt K mg A) : FnOk P w K mg base CX0 2 A.as_share A.fd_as_share ["value"] (SpD K AnyR c_as_share) := by
  refine Fun.ok T.F_as_share sc_as_share (fun vs H Q E h => spd_len (l_as_share) h) (fun cdv A' outer s H vs Q E hr h => ⟨_, (pss_one (ps_ret (pe_ifExp (pt_val (pe_call (ok_is_integer T) (hr.mono (by decide)) (by rfl) T.m_is_integer T.F_is_integer.kp (b_is_integer T) .nil pass0 (pa_cons (pv 0) pa_nil))) (pe_tup (pa_cons (pv 0) (pa_cons pe_int pa_nil))) (pv 0)))), ?_⟩)
  refine body_ok 1 (by decide) (l_as_share) h (fun Γ ds Ψ Ξ hK hX hF hc ke => ?_)
  subst hK
  obtain ⟨d, p, rfl, ha, hc⟩ := hc
  walk_at "rd"
  refine ⟨ha.kn, _, rfl, fun h1 => ?_, fun h1 => ?_⟩
  · cases ha with
    | sh p => cases h1
    | int i =>
      walk_at "rd"
      exact hc
  · cases ha with
    | sh p =>
      walk_at "rd"
      exact hc
    | int i => cases h1
abbrev c_reduced_pair : Cn := fun K w ds Ψ Ξ => ∃ a b : Int, ds = [.int a, .int b] ∧ b ≠ 0 ∧ b.natAbs < 2 ^ 8999 ∧ Ψ (.fz (shD (red a b)))
theorem fd_ex {a b : Int} {n : Nat} (h : b ≠ 0) (hb : b.natAbs < 2 ^ n) (hn : n ≤ 8999) : CFd a (gi a b) ∧ CFd b (gi a b) := by
  have h1 := gi_pos (a := a) h
  have h2 := gi_le (a := a) h
  exact ⟨cfd_of (by omega) (by omega) hn, cfd_of (by omega) (by omega) hn⟩
theorem l_reduced_pair : ∀ K w ds Ψ Ξ, c_reduced_pair K w ds Ψ Ξ → ds.length = 2 := fun K w ds Ψ Ξ h => by
  obtain ⟨_, _, rfl, _⟩ := h
  rfl
theorem ok_reduced_pair {P : Program} {w : World} {K : PySem.W.Frag} {mg : Str → Option Value} {base : Heap} {A : Ad} (T : Txt K mg A) : FnOk P w K mg base CX0 2 A.reduced_pair A.fd_reduced_pair ["a", "b"] (SpD K AnyR c_reduced_pair) := by
  refine Fun.ok T.F_reduced_pair sc_reduced_pair (fun vs H Q E h => spd_len (l_reduced_pair) h) (fun cdv A' outer s H vs Q E hr h => ⟨_, (pss_cons (ps_if (pt_cmpR op_lt (pv 1) pe_int (nomark _)) (pss_one (ps_par (i := 0) (j := 1) (by rfl) sc_reduced_pair.nd rfl rfl (by decide) rfl rfl (pa_cons (pe_un un_neg (pv 0)) (pa_cons (pe_un un_neg (pv 1)) pa_nil)) (by rfl))) pss_nil)
        (pss_cons (ps_set (i := 2) sc_reduced_pair.nd rfl (.inl rfl) (pe_call (ok_common_divisor T) (hr.mono (by decide)) (by rfl) T.m_common_divisor T.F_common_divisor.kp (b_common_divisor T) .nil pass0 (pa_cons (pv 0) (pa_cons (pv 1) pa_nil))))
        (pss_one (ps_ret (pe_tup (pa_cons (pe_op op_fdivG (pv 0) (pv 2)) (pa_cons (pe_op op_fdivG (pv 1) (pv 2)) pa_nil))))))), ?_⟩)
  refine body_ok 2 (by decide) (l_reduced_pair) h (fun Γ ds Ψ Ξ hK hX hF hc ke => ?_)
  subst hK
  obtain ⟨a, b, rfl, h0, hb, hc⟩ := hc
  refine sw_cut (fun ρ => ∃ x y : Int, ρ = [some (.fz (.int x)), some (.fz (.int y)), none] ∧ 0 < y ∧ y.natAbs < 2 ^ 8999 ∧ (x.fdiv (gi x y), y.fdiv (gi x y)) = red a b) ?_ ?_
  · walk_at "rd"
    refine ⟨fun h1 => ?_, fun h1 => ?_⟩
    · have hn : b < 0 := of_decide_eq_true h1
      walk_at "rd"
      refine ⟨by omega, by omega, ?_⟩
      rw [red_neg hn, Int.fdiv_eq_ediv_of_dvd (gi_l _ _), Int.fdiv_eq_ediv_of_dvd (gi_r _ _)]
    · have hn : ¬ b < 0 := of_decide_eq_false h1
      walk_at "rd"
      refine ⟨by omega, hb, ?_⟩
      rw [red_pos (by omega), Int.fdiv_eq_ediv_of_dvd (gi_l _ _), Int.fdiv_eq_ediv_of_dvd (gi_r _ _)]
  · rintro ρ ⟨x, y, rfl, hy, hyb, e⟩
    walk_at "rd"
    refine ⟨_, opv_intC (fd_ex (by omega) hyb (Nat.le_refl _)).1, ?_⟩
    walk_at "rd"
    refine ⟨_, opv_intC (fd_ex (by omega) hyb (Nat.le_refl _)).2, ?_⟩
    walk_at "rd"
    have e2 : shD (x.fdiv (gi x y), y.fdiv (gi x y)) = shD (red a b) := by rw [e]
    rw [← e2] at hc
    exact hc
end Pf

namespace Pf
open PySem L2 Dl Sh
local macro_rules | `(tactic| walk_at "r0") => `(tactic| with_reducible first
  | refine sw_seq ?_
  | refine ew_var rfl ?_
  | refine ew_int ?_
  | refine ew_bl ?_
  | refine ew_non ?_
  | refine ew_str ?_
  | refine aw_cons ?_
  | refine aw_nil ?_
  | refine sw_par ?_
  | refine sw_next ?_
  | refine sw_if ?_
  | refine sw_ret ?_
  | refine tw_not ?_
  | refine tw_and ?_
  | refine tw_or ?_
  | refine tw_test ?_
  | refine tw_B ?_
  | refine tw_tru rfl ?_
  | refine ew_andV ?_
  | refine ew_orV ?_
  | refine ew_notV ?_
  | refine ew_if ?_
  | refine ew_chain ?_
  | refine ew_isN ?_
  | refine ew_tup ?_
  | refine ew_lst ?_
  | refine ew_isi rfl ?_
  | refine ew_isi2 rfl ?_
  | refine ew_cb ?_
  | refine ew_neg ?_
  | refine ew_op ?_
  | refine ⟨_, opv_int, ?_⟩
  | refine ⟨_, opv_cmp, ?_⟩
  | refine ⟨_, opv_eq, ?_⟩
  | refine ⟨_, opv_ne, ?_⟩
  | refine ⟨_, opv_eqB, ?_⟩
  | refine ⟨_, opv_eqS, ?_⟩
  | refine ⟨_, cbv_abs, ?_⟩
  | refine ⟨_, cbv_int, ?_⟩
  | refine ⟨_, rfl, ?_⟩
  | refine ⟨_, _, rfl, ?_⟩
  | refine br_t ?_
  | refine br_f ?_
  | refine sw_asg ?_)
local macro_rules | `(tactic| walk_at "r1") => `(tactic| first
  | walk_at "r0"
  | ((with_reducible refine ew_callP ?hK trivial ?_); (case hK => rfl))
  | ((with_reducible refine ew_callH ?hK trivial ?_); (case hK => rfl))
  | ((with_reducible refine ew_callR ?hK ?hF ?_); (case hK => rfl); (case hF => assumption))
  | ((with_reducible refine len_ok ?hK ?_); (case hK => rfl))
  | ((with_reducible refine sw_unp2 ?hK ?hn ?_); (case hK => rfl); (case hn => rfl)))
local macro_rules | `(tactic| walk_at "side") => `(tactic| first
  | exact Or.inr (by decide)
  | exact Or.inl (by decide)
  | exact ⟨by decide, by decide⟩
  | exact ⟨by decide, by decide, by decide⟩
  | decide
  | (dsimp only; decide)
  | exact mw (by assumption) (by assumption))
local macro_rules | `(tactic| walk_at "r2") => `(tactic| first
  | walk_at "r1"
  | ((with_reducible refine ⟨_, opv_intC ?hC, ?_⟩); (case hC => walk_at "side"))
  | ((with_reducible refine ⟨_, cbv_lenL ?hK, ?_⟩); (case hK => rfl))
  | ((with_reducible refine ⟨_, cbv_lenT ?hK, ?_⟩); (case hK => rfl))
  | (with_reducible refine ⟨_, opv_ixT (by with_unfolding_all rfl) (by with_unfolding_all rfl), ?_⟩)
  | refine br_t ?_
  | refine br_f ?_)
local macro_rules | `(tactic| walk_at "rd") => `(tactic| repeat (walk_at "r2"))
local macro_rules | `(tactic| walk_at "rs") => `(tactic| repeat ((fail_if_success (with_reducible refine sw_isif ?_)); walk_at "r2"))
local macro_rules | `(tactic| walk_at "nf") => `(tactic| (try simp only [List.set_cons_zero, List.set_cons_succ, Dl.sets, Dl.asD]))

abbrev Bd (p : Int × Int) : Prop := Sm 4400 p
theorem mw {i j : Int} (ha : i.natAbs < 2 ^ 4400) (hb : j.natAbs < 2 ^ 4400) : CMulW i j := wide_mul ha hb (by decide) (by decide) (by decide)
theorem mwb {i j : Int} (ha : i.natAbs < 2 ^ 4400) (hb : j.natAbs < 2 ^ 4400) : (i * j).natAbs < 2 ^ 8999 := sm_mono (mul_sm ha hb) (by decide)
theorem mul_nz {i j : Int} (h : i ≠ 0) (h' : j ≠ 0) : i * j ≠ 0 := Int.mul_ne_zero h h'
/-- shares handed in -/
structure ShIn (d : D) (p : Int × Int) : Prop where
  as : AsSh d p
  pos : 0 < p.2
  bd : Bd p
abbrev c_plus : Cn := fun K w ds Ψ Ξ => ∃ x y p q, ds = [x, y] ∧ ShIn x p ∧ ShIn y q ∧ Ψ (.fz (shD (red (p.1 * q.2 + q.1 * p.2) (p.2 * q.2))))
theorem l_plus : ∀ K w ds Ψ Ξ, c_plus K w ds Ψ Ξ → ds.length = 2 := fun K w ds Ψ Ξ h => by
  obtain ⟨_, _, _, _, rfl, _⟩ := h
  rfl
theorem ok_plus {P : Program} {w : World} {K : PySem.W.Frag} {mg : Str → Option Value} {base : Heap} {A : Ad} (T : Txt K mg A) : FnOk P w K mg base CX0 3 A.plus A.fd_plus ["one", "other"] (SpD K AnyR c_plus) := by
  refine Fun.ok T.F_plus sc_plus (fun vs H Q E h => spd_len (l_plus) h) (fun cdv A' outer s H vs Q E hr h => ⟨_, (pss_cons (ps_asg (pe_call (ok_as_share T) (hr.mono (by decide)) (by rfl) T.m_as_share T.F_as_share.kp (b_as_share T) .nil pass0 (pa_cons (pv 0) pa_nil)) (pg_tup (by rfl) (pgs_cons (pg_name (i := 2) sc_plus.nd rfl (.inl rfl)) (pgs_cons (pg_name (i := 3) sc_plus.nd rfl (.inl rfl)) pgs_nil))))
        (pss_cons (ps_asg (pe_call (ok_as_share T) (hr.mono (by decide)) (by rfl) T.m_as_share T.F_as_share.kp (b_as_share T) .nil pass0 (pa_cons (pv 1) pa_nil)) (pg_tup (by rfl) (pgs_cons (pg_name (i := 4) sc_plus.nd rfl (.inl rfl)) (pgs_cons (pg_name (i := 5) sc_plus.nd rfl (.inl rfl)) pgs_nil))))
        (pss_one (ps_ret (pe_call (ok_reduced_pair T) (hr.mono (by decide)) (by rfl) T.m_reduced_pair T.F_reduced_pair.kp (b_reduced_pair T) .nil pass0 (pa_cons (pe_op op_add (pe_op op_mulW (pv 2) (pv 5)) (pe_op op_mulW (pv 4) (pv 3))) (pa_cons (pe_op op_mulW (pv 3) (pv 5)) pa_nil))))))), ?_⟩)
  refine body_ok 2 (by decide) (l_plus) h (fun Γ ds Ψ Ξ hK hX hF hc ke => ?_)
  subst hK
  obtain ⟨x, y, p, q, rfl, hx, hy, hc⟩ := hc
  walk_at "rd"
  refine ⟨_, p, rfl, hx.as, ?_⟩
  walk_at "rd"
  refine ⟨_, q, rfl, hy.as, ?_⟩
  walk_at "rd"
  refine ⟨_, opv_intC (mw hx.bd.1 hy.bd.2), ?_⟩
  walk_at "rd"
  refine ⟨_, opv_intC (mw hy.bd.1 hx.bd.2), ?_⟩
  walk_at "rd"
  refine ⟨_, opv_intC (mw hx.bd.2 hy.bd.2), ?_⟩
  walk_at "rd"
  exact ⟨mul_nz (by have := hx.pos; omega) (by have := hy.pos; omega), mwb hx.bd.2 hy.bd.2, hc⟩
abbrev c_less : Cn := fun K w ds Ψ Ξ => ∃ x y p q, ds = [x, y] ∧ ShIn x p ∧ ShIn y q ∧ Ψ (.fz (shD (red (p.1 * q.2 - q.1 * p.2) (p.2 * q.2))))
theorem l_less : ∀ K w ds Ψ Ξ, c_less K w ds Ψ Ξ → ds.length = 2 := fun K w ds Ψ Ξ h => by
  obtain ⟨_, _, _, _, rfl, _⟩ := h
  rfl
theorem ok_less {P : Program} {w : World} {K : PySem.W.Frag} {mg : Str → Option Value} {base : Heap} {A : Ad} (T : Txt K mg A) : FnOk P w K mg base CX0 3 A.less A.fd_less ["one", "other"] (SpD K AnyR c_less) := by
  refine Fun.ok T.F_less sc_less (fun vs H Q E h => spd_len (l_less) h) (fun cdv A' outer s H vs Q E hr h => ⟨_, (pss_cons (ps_asg (pe_call (ok_as_share T) (hr.mono (by decide)) (by rfl) T.m_as_share T.F_as_share.kp (b_as_share T) .nil pass0 (pa_cons (pv 0) pa_nil)) (pg_tup (by rfl) (pgs_cons (pg_name (i := 2) sc_less.nd rfl (.inl rfl)) (pgs_cons (pg_name (i := 3) sc_less.nd rfl (.inl rfl)) pgs_nil))))
        (pss_cons (ps_asg (pe_call (ok_as_share T) (hr.mono (by decide)) (by rfl) T.m_as_share T.F_as_share.kp (b_as_share T) .nil pass0 (pa_cons (pv 1) pa_nil)) (pg_tup (by rfl) (pgs_cons (pg_name (i := 4) sc_less.nd rfl (.inl rfl)) (pgs_cons (pg_name (i := 5) sc_less.nd rfl (.inl rfl)) pgs_nil))))
        (pss_one (ps_ret (pe_call (ok_reduced_pair T) (hr.mono (by decide)) (by rfl) T.m_reduced_pair T.F_reduced_pair.kp (b_reduced_pair T) .nil pass0 (pa_cons (pe_op op_sub (pe_op op_mulW (pv 2) (pv 5)) (pe_op op_mulW (pv 4) (pv 3))) (pa_cons (pe_op op_mulW (pv 3) (pv 5)) pa_nil))))))), ?_⟩)
  refine body_ok 2 (by decide) (l_less) h (fun Γ ds Ψ Ξ hK hX hF hc ke => ?_)
  subst hK
  obtain ⟨x, y, p, q, rfl, hx, hy, hc⟩ := hc
  walk_at "rd"
  refine ⟨_, p, rfl, hx.as, ?_⟩
  walk_at "rd"
  refine ⟨_, q, rfl, hy.as, ?_⟩
  walk_at "rd"
  refine ⟨_, opv_intC (mw hx.bd.1 hy.bd.2), ?_⟩
  walk_at "rd"
  refine ⟨_, opv_intC (mw hy.bd.1 hx.bd.2), ?_⟩
  walk_at "rd"
  refine ⟨_, opv_intC (mw hx.bd.2 hy.bd.2), ?_⟩
  walk_at "rd"
  exact ⟨mul_nz (by have := hx.pos; omega) (by have := hy.pos; omega), mwb hx.bd.2 hy.bd.2, hc⟩
abbrev c_times : Cn := fun K w ds Ψ Ξ => ∃ x y p q, ds = [x, y] ∧ ShIn x p ∧ ShIn y q ∧ Ψ (.fz (shD (red (p.1 * q.1) (p.2 * q.2))))
theorem l_times : ∀ K w ds Ψ Ξ, c_times K w ds Ψ Ξ → ds.length = 2 := fun K w ds Ψ Ξ h => by
  obtain ⟨_, _, _, _, rfl, _⟩ := h
  rfl
theorem ok_times {P : Program} {w : World} {K : PySem.W.Frag} {mg : Str → Option Value} {base : Heap} {A : Ad} (T : Txt K mg A) : FnOk P w K mg base CX0 3 A.times A.fd_times ["one", "other"] (SpD K AnyR c_times) := by
  refine Fun.ok T.F_times sc_times (fun vs H Q E h => spd_len (l_times) h) (fun cdv A' outer s H vs Q E hr h => ⟨_, (pss_cons (ps_asg (pe_call (ok_as_share T) (hr.mono (by decide)) (by rfl) T.m_as_share T.F_as_share.kp (b_as_share T) .nil pass0 (pa_cons (pv 0) pa_nil)) (pg_tup (by rfl) (pgs_cons (pg_name (i := 2) sc_times.nd rfl (.inl rfl)) (pgs_cons (pg_name (i := 3) sc_times.nd rfl (.inl rfl)) pgs_nil))))
        (pss_cons (ps_asg (pe_call (ok_as_share T) (hr.mono (by decide)) (by rfl) T.m_as_share T.F_as_share.kp (b_as_share T) .nil pass0 (pa_cons (pv 1) pa_nil)) (pg_tup (by rfl) (pgs_cons (pg_name (i := 4) sc_times.nd rfl (.inl rfl)) (pgs_cons (pg_name (i := 5) sc_times.nd rfl (.inl rfl)) pgs_nil))))
        (pss_one (ps_ret (pe_call (ok_reduced_pair T) (hr.mono (by decide)) (by rfl) T.m_reduced_pair T.F_reduced_pair.kp (b_reduced_pair T) .nil pass0 (pa_cons (pe_op op_mulW (pv 2) (pv 4)) (pa_cons (pe_op op_mulW (pv 3) (pv 5)) pa_nil))))))), ?_⟩)
  refine body_ok 2 (by decide) (l_times) h (fun Γ ds Ψ Ξ hK hX hF hc ke => ?_)
  subst hK
  obtain ⟨x, y, p, q, rfl, hx, hy, hc⟩ := hc
  walk_at "rd"
  refine ⟨_, p, rfl, hx.as, ?_⟩
  walk_at "rd"
  refine ⟨_, q, rfl, hy.as, ?_⟩
  walk_at "rd"
  refine ⟨_, opv_intC (mw hx.bd.1 hy.bd.1), ?_⟩
  walk_at "rd"
  refine ⟨_, opv_intC (mw hx.bd.2 hy.bd.2), ?_⟩
  walk_at "rd"
  exact ⟨mul_nz (by have := hx.pos; omega) (by have := hy.pos; omega), mwb hx.bd.2 hy.bd.2, hc⟩
abbrev c_is_below : Cn := fun K w ds Ψ Ξ => ∃ x y p q, ds = [x, y] ∧ ShIn x p ∧ ShIn y q ∧ Ψ (.fz (.bl (decide (p.1 * q.2 < q.1 * p.2))))
theorem l_is_below : ∀ K w ds Ψ Ξ, c_is_below K w ds Ψ Ξ → ds.length = 2 := fun K w ds Ψ Ξ h => by
  obtain ⟨_, _, _, _, rfl, _⟩ := h
  rfl
theorem ok_is_below {P : Program} {w : World} {K : PySem.W.Frag} {mg : Str → Option Value} {base : Heap} {A : Ad} (T : Txt K mg A) : FnOk P w K mg base CX0 3 A.is_below A.fd_is_below ["one", "other"] (SpD K AnyR c_is_below) := by
  refine Fun.ok T.F_is_below sc_is_below (fun vs H Q E h => spd_len (l_is_below) h) (fun cdv A' outer s H vs Q E hr h => ⟨_, (pss_cons (ps_asg (pe_call (ok_as_share T) (hr.mono (by decide)) (by rfl) T.m_as_share T.F_as_share.kp (b_as_share T) .nil pass0 (pa_cons (pv 0) pa_nil)) (pg_tup (by rfl) (pgs_cons (pg_name (i := 2) sc_is_below.nd rfl (.inl rfl)) (pgs_cons (pg_name (i := 3) sc_is_below.nd rfl (.inl rfl)) pgs_nil))))
        (pss_cons (ps_asg (pe_call (ok_as_share T) (hr.mono (by decide)) (by rfl) T.m_as_share T.F_as_share.kp (b_as_share T) .nil pass0 (pa_cons (pv 1) pa_nil)) (pg_tup (by rfl) (pgs_cons (pg_name (i := 4) sc_is_below.nd rfl (.inl rfl)) (pgs_cons (pg_name (i := 5) sc_is_below.nd rfl (.inl rfl)) pgs_nil))))
        (pss_one (ps_ret (pe_cmpR op_lt (pe_op op_mulW (pv 2) (pv 5)) (pe_op op_mulW (pv 4) (pv 3)) (nomark _)))))), ?_⟩)
  refine body_ok 2 (by decide) (l_is_below) h (fun Γ ds Ψ Ξ hK hX hF hc ke => ?_)
  subst hK
  obtain ⟨x, y, p, q, rfl, hx, hy, hc⟩ := hc
  walk_at "rd"
  refine ⟨_, p, rfl, hx.as, ?_⟩
  walk_at "rd"
  refine ⟨_, q, rfl, hy.as, ?_⟩
  walk_at "rd"
  refine ⟨_, opv_intC (mw hx.bd.1 hy.bd.2), ?_⟩
  walk_at "rd"
  refine ⟨_, opv_intC (mw hy.bd.1 hx.bd.2), ?_⟩
  walk_at "rd"
  exact hc
theorem ok_InvalidNumber__init {P : Program} {w : World} {K : PySem.W.Frag} {mg : Str → Option Value} {base : Heap} {A : Ad} (T : Txt K mg A) : FnOk P w K mg base CX0 1 A.InvalidNumber__init A.fd_InvalidNumber__init ["self", "value"] (spInit K A.c_InvalidNumber "value") := by
  refine T.F_InvalidNumber__init.ok sc_InvalidNumber__init (fun vs H Q E h => by obtain ⟨_, _, rfl, _⟩ := h; rfl) (fun cdv A' outer s H vs Q E hr h => ⟨_, (pss_one (ps_ost (pv 0) (pv 1))), body_init T.ox_InvalidNumber T.no_InvalidNumber_value rfl h⟩)
abbrev c_share_of (A : Ad) : Cn := fun K w ds Ψ Ξ => ∃ a b : Int, ds = [.int a, .int b] ∧ b.natAbs < 2 ^ 8999 ∧ (b ≠ 0 → Ψ (.fz (shD (red a b)))) ∧ (b = 0 → Ξ A.c_InvalidNumber "value" (.int b))
theorem l_share_of (A : Ad) : ∀ K w ds Ψ Ξ, (c_share_of A) K w ds Ψ Ξ → ds.length = 2 := fun K w ds Ψ Ξ h => by
  obtain ⟨_, _, rfl, _⟩ := h
  rfl
theorem ok_share_of {P : Program} {w : World} {K : PySem.W.Frag} {mg : Str → Option Value} {base : Heap} {A : Ad} (T : Txt K mg A) : FnOk P w K mg base (L2N.CX P w) 3 A.share_of A.fd_share_of ["a", "b"] (SpD K AnyR (c_share_of A)) := by
  refine okN T.F_share_of sc_share_of (fun vs H Q E h => spd_len (l_share_of A) h) (fun cdv A' outer s H vs Q E hr h => ⟨_, (pss_cons (ps_if (PW.pt (pw_or (pt_not (pt_val (pe_call (ok_is_integer T) (hr.mono (by decide)) (by rfl) T.m_is_integer T.F_is_integer.kp (b_is_integer T) .nil pass0 (pa_cons (pv 1) pa_nil)))) (pw_or1 (pt_cmpR op_eq (pv 1) pe_int (nomark _))))) (pss_one (L2N.ps_raise rfl (L2N.takes_of rfl rfl rfl rfl) (made_own T.ox_InvalidNumber T.i_InvalidNumber T.t_InvalidNumber (ok_InvalidNumber__init T) (hr.mono (by decide)) (b_InvalidNumber__init T) (fun _ _ _ _ _ _ _ h => h.elim) (by rfl) T.m_InvalidNumber (pa_cons (pv 1) pa_nil)))) pss_nil)
        (pss_one (ps_ret (pe_call (ok_reduced_pair T) (hr.mono (by decide)) (by rfl) T.m_reduced_pair T.F_reduced_pair.kp (b_reduced_pair T) .nil pass0 (pa_cons (pv 0) (pa_cons (pv 1) pa_nil)))))), ?_⟩)
  refine body_ok 2 (by decide) (l_share_of A) h (fun Γ ds Ψ Ξ hK hX hF hc ke => ?_)
  subst hK
  obtain ⟨a, b, rfl, hb, h1, h2⟩ := hc
  walk_at "rd"
  refine ⟨kn_int, _, rfl, br_f ?_⟩
  walk_at "rd"
  refine ⟨fun h3 => ?_, fun h3 => ?_⟩
  · refine sw_raiseE ke (fun _ _ _ _ x => x) ?_
    walk_at "rd"
    exact h2 (of_decide_eq_true h3)
  · have h4 : b ≠ 0 := of_decide_eq_false h3
    walk_at "rd"
    exact ⟨h4, hb, h1 h4⟩
theorem ok_Undefined__init {P : Program} {w : World} {K : PySem.W.Frag} {mg : Str → Option Value} {base : Heap} {A : Ad} (T : Txt K mg A) : FnOk P w K mg base CX0 1 A.Undefined__init A.fd_Undefined__init ["self", "what"] (spInit K A.c_Undefined "what") := by
  refine T.F_Undefined__init.ok sc_Undefined__init (fun vs H Q E h => by obtain ⟨_, _, rfl, _⟩ := h; rfl) (fun cdv A' outer s H vs Q E hr h => ⟨_, (pss_one (ps_ost (pv 0) (pv 1))), body_init T.ox_Undefined T.no_Undefined_what rfl h⟩)
abbrev c_over (A : Ad) : Cn := fun K w ds Ψ Ξ => ∃ x y p q, ds = [x, y] ∧ ShIn x p ∧ ShIn y q ∧ (q.1 ≠ 0 → Ψ (.fz (shD (red (p.1 * q.2) (p.2 * q.1))))) ∧ (q.1 = 0 → Ξ A.c_Undefined "what" (.str "nought"))
theorem l_over (A : Ad) : ∀ K w ds Ψ Ξ, (c_over A) K w ds Ψ Ξ → ds.length = 2 := fun K w ds Ψ Ξ h => by
  obtain ⟨_, _, _, _, rfl, _⟩ := h
  rfl
theorem ok_over {P : Program} {w : World} {K : PySem.W.Frag} {mg : Str → Option Value} {base : Heap} {A : Ad} (T : Txt K mg A) : FnOk P w K mg base (L2N.CX P w) 3 A.over A.fd_over ["one", "other"] (SpD K AnyR (c_over A)) := by
  refine okN T.F_over sc_over (fun vs H Q E h => spd_len (l_over A) h) (fun cdv A' outer s H vs Q E hr h => ⟨_, (pss_cons (ps_asg (pe_call (ok_as_share T) (hr.mono (by decide)) (by rfl) T.m_as_share T.F_as_share.kp (b_as_share T) .nil pass0 (pa_cons (pv 0) pa_nil)) (pg_tup (by rfl) (pgs_cons (pg_name (i := 2) sc_over.nd rfl (.inl rfl)) (pgs_cons (pg_name (i := 3) sc_over.nd rfl (.inl rfl)) pgs_nil))))
        (pss_cons (ps_asg (pe_call (ok_as_share T) (hr.mono (by decide)) (by rfl) T.m_as_share T.F_as_share.kp (b_as_share T) .nil pass0 (pa_cons (pv 1) pa_nil)) (pg_tup (by rfl) (pgs_cons (pg_name (i := 4) sc_over.nd rfl (.inl rfl)) (pgs_cons (pg_name (i := 5) sc_over.nd rfl (.inl rfl)) pgs_nil))))
        (pss_cons (ps_if (pt_cmpR op_eq (pv 4) pe_int (nomark _)) (pss_one (L2N.ps_raise rfl (L2N.takes_of rfl rfl rfl rfl) (made_own T.ox_Undefined T.i_Undefined T.t_Undefined (ok_Undefined__init T) (hr.mono (by decide)) (b_Undefined__init T) (fun _ _ _ _ _ _ _ h => h.elim) (by rfl) T.m_Undefined (pa_cons pe_str pa_nil)))) pss_nil)
        (pss_one (ps_ret (pe_call (ok_reduced_pair T) (hr.mono (by decide)) (by rfl) T.m_reduced_pair T.F_reduced_pair.kp (b_reduced_pair T) .nil pass0 (pa_cons (pe_op op_mulW (pv 2) (pv 5)) (pa_cons (pe_op op_mulW (pv 3) (pv 4)) pa_nil)))))))), ?_⟩)
  refine body_ok 2 (by decide) (l_over A) h (fun Γ ds Ψ Ξ hK hX hF hc ke => ?_)
  subst hK
  obtain ⟨x, y, p, q, rfl, hx, hy, h1, h2⟩ := hc
  walk_at "rd"
  refine ⟨_, p, rfl, hx.as, ?_⟩
  walk_at "rd"
  refine ⟨_, q, rfl, hy.as, ?_⟩
  walk_at "rd"
  refine ⟨fun h3 => ?_, fun h3 => ?_⟩
  · refine sw_raiseE ke (fun _ _ _ _ x => x) ?_
    walk_at "rd"
    exact h2 (of_decide_eq_true h3)
  · have h4 : q.1 ≠ 0 := of_decide_eq_false h3
    walk_at "rd"
    refine ⟨_, opv_intC (mw hx.bd.1 hy.bd.2), ?_⟩
    walk_at "rd"
    refine ⟨_, opv_intC (mw hx.bd.2 hy.bd.1), ?_⟩
    walk_at "rd"
    exact ⟨mul_nz (by have := hx.pos; omega) h4, mwb hx.bd.2 hy.bd.1, h1 h4⟩
/-- shares handed in, one by one, each below 2 ^ 100 -/
structure Many (ps : List (D × (Int × Int))) : Prop where
  len : ps.length ≤ 20
  all : ∀ q ∈ ps, AsSh q.1 q.2 ∧ 0 < q.2.2 ∧ Sm 100 q.2
abbrev c_total_of_1 : Cn := fun K w ds Ψ Ξ => ∃ ps : List (D × (Int × Int)), ds = [.lst (ps.map (·.1))] ∧ Many ps ∧ Ψ (.fz (shD ((ps.map (·.2)).foldl stepD (0, 1))))
abbrev c_total_of_2 : Cn := fun K w ds Ψ Ξ => ∃ ps : List (D × (Int × Int)), ds = [.tup (ps.map (·.1))] ∧ Many ps ∧ Ψ (.fz (shD ((ps.map (·.2)).foldl stepD (0, 1))))
/-- what holds behind i shares -/
structure TotAt (ps : List (D × (Int × Int))) (i : Nat) (t : Int × Int) : Prop where
  is : t = ((ps.take i).map (·.2)).foldl stepT (0, 1)
  pos : 0 < t.2
  bd : Sm (1 + 101 * i) t
theorem take_more {α : Type} : ∀ {l : List α} {i : Nat} {x : α}, l[i]? = some x → l.take (i + 1) = l.take i ++ [x]
  | [], i, x, h => by simp at h
  | a :: l, 0, x, h => by
    have e : a = x := Option.some.inj h
    subst e
    rfl
  | a :: l, i + 1, x, h => by
    have ih := take_more (l := l) (i := i) (x := x) h
    show a :: l.take (i + 1) = a :: l.take i ++ [x]
    rw [ih]
    rfl
theorem totAt_more {ps : List (D × (Int × Int))} {i : Nat} {t : Int × Int} {q : D × (Int × Int)} (h : TotAt ps i t) (hq : ps[i]? = some q) (hp : 0 < q.2.2) (hb : Sm 100 q.2) : TotAt ps (i + 1) (stepT t q.2) := by
  have hg := gi_pos (a := t.2) (b := q.2.2) (by omega)
  refine ⟨by rw [take_more hq, List.map_append, List.foldl_append, ← h.is]; rfl, ?_, ?_⟩
  · refine Int.mul_pos ?_ hp
    rw [gi_comm]
    exact div_pos h.pos
  · have := stepT_sm h.bd hb hp
    have e : 1 + 101 * i + 100 + 1 = 1 + 101 * (i + 1) := by omega
    rw [e] at this
    exact this
def TotJ (ps : List (D × (Int × Int))) (x : D) (i : Nat) (ρ : Dl.Env) : Prop := ∃ (t : Int × Int) (b3 b4 b5 b6 : Option B), ρ = [some (.fz x), some (.fz (.int t.1)), some (.fz (.int t.2)), b3, b4, b5, b6] ∧ TotAt ps i t
theorem tot_bd {i : Nat} (h : i ≤ 20) {t : Int × Int} (b : Sm (1 + 101 * i) t) : Bd t := ⟨sm_mono b.1 (by omega), sm_mono b.2 (by omega)⟩
theorem item_of {ps : List (D × (Int × Int))} {i : Nat} {y : D} (h : (ps.map (·.1))[i]? = some y) : ∃ q, ps[i]? = some q ∧ y = q.1 := by
  rw [List.getElem?_map] at h
  cases e : ps[i]? with
  | none =>
    rw [e] at h
    cases h
  | some q =>
    rw [e] at h
    exact ⟨q, rfl, (Option.some.inj h).symm⟩
theorem l_total_of_1 : ∀ K w ds Ψ Ξ, c_total_of_1 K w ds Ψ Ξ → ds.length = 1 := fun K w ds Ψ Ξ h => by
  obtain ⟨_, rfl, _⟩ := h
  rfl
theorem l_total_of_2 : ∀ K w ds Ψ Ξ, c_total_of_2 K w ds Ψ Ξ → ds.length = 1 := fun K w ds Ψ Ξ h => by
  obtain ⟨_, rfl, _⟩ := h
  rfl
abbrev c_total_of : Cn := COr c_total_of_1 c_total_of_2
theorem l_total_of : ∀ K w ds Ψ Ξ, c_total_of K w ds Ψ Ξ → ds.length = 1 := fun K w ds Ψ Ξ h => h.elim (l_total_of_1 K w ds Ψ Ξ) (l_total_of_2 K w ds Ψ Ξ)
theorem ok_total_of {P : Program} {w : World} {K : PySem.W.Frag} {mg : Str → Option Value} {base : Heap} {A : Ad} (T : Txt K mg A) : FnOk P w K mg base CX0 3 A.total_of A.fd_total_of ["shares"] (SpD K AnyR c_total_of) := by
  refine Fun.ok T.F_total_of sc_total_of (fun vs H Q E h => spd_len l_total_of h) (fun cdv A' outer s H vs Q E hr h => ?_)
  rcases spd_or h with h | h
  · refine ⟨_, (pss_cons (ps_asg (pe_glob (v := .ref A.k_NOUGHT) (by rfl) T.m_NOUGHT rfl) (pg_tup (by rfl) (pgs_cons (pg_name (i := 1) sc_total_of.nd rfl (.inl rfl)) (pgs_cons (pg_name (i := 2) sc_total_of.nd rfl (.inl rfl)) pgs_nil))))
        (pss_cons (ps_for PassesOwn.never rfl (pi_list (pv 0)) (pg_name (i := 3) sc_total_of.nd rfl (.inl rfl)) (pss_cons (ps_asg (pe_call (ok_as_share T) (hr.mono (by decide)) (by rfl) T.m_as_share T.F_as_share.kp (b_as_share T) .nil pass0 (pa_cons (pv 3) pa_nil)) (pg_tup (by rfl) (pgs_cons (pg_name (i := 4) sc_total_of.nd rfl (.inl rfl)) (pgs_cons (pg_name (i := 5) sc_total_of.nd rfl (.inl rfl)) pgs_nil))))
        (pss_cons (ps_set (i := 6) sc_total_of.nd rfl (.inl rfl) (pe_call (ok_common_divisor T) (hr.mono (by decide)) (by rfl) T.m_common_divisor T.F_common_divisor.kp (b_common_divisor T) .nil pass0 (pa_cons (pv 2) (pa_cons (pv 5) pa_nil))))
        (pss_cons (ps_set (i := 1) sc_total_of.nd rfl (.inl rfl) (pe_op op_add (pe_op op_mulW (pv 1) (pe_op op_fdivW (pv 5) (pv 6))) (pe_op op_mulW (pv 4) (pe_op op_fdivW (pv 2) (pv 6)))))
        (pss_one (ps_set (i := 2) sc_total_of.nd rfl (.inl rfl) (pe_op op_mulW (pe_op op_fdivW (pv 2) (pv 6)) (pv 5))))))))
        (pss_one (ps_ret (pe_call (ok_reduced_pair T) (hr.mono (by decide)) (by rfl) T.m_reduced_pair T.F_reduced_pair.kp (b_reduced_pair T) .nil pass0 (pa_cons (pv 1) (pa_cons (pv 2) pa_nil))))))), ?_⟩
    refine body_ok 1 (by decide) l_total_of_1 h (fun Γ ds Ψ Ξ hK hX hF hc ke => ?_)
    subst hK
    obtain ⟨ps, rfl, hm, hc⟩ := hc
    refine sw_seq ?_
    refine sw_unp2 rfl rfl (ew_ref T.k_NOUGHT (fun G => .cons (.int 0) (.cons (.int 1) .nil)) ⟨_, _, rfl, ?_⟩)
    refine sw_seq (sw_forL rfl (ew_var rfl ⟨_, rfl, TotJ ps (.lst (ps.map (·.1))), ⟨(0, 1), none, none, none, none, rfl, rfl, by decide, ⟨by decide, by decide⟩⟩, fun i y ρ2 hi hJ => ?_, fun ρ2 hJ => ?_⟩))
    · obtain ⟨q, hq, rfl⟩ := item_of hi
      obtain ⟨t, b3, b4, b5, b6, rfl, ht⟩ := hJ
      obtain ⟨h1, h2, h3⟩ := hm.all q (List.mem_of_getElem? hq)
      have hi20 : i ≤ 20 := Nat.le_trans (Nat.le_of_lt (List.getElem?_eq_some_iff.mp hq).1) hm.len
      have bt := tot_bd hi20 ht.bd
      have bq : Bd q.2 := ⟨sm_mono h3.1 (by decide), sm_mono h3.2 (by decide)⟩
      have hg := gi_pos (a := t.2) (b := q.2.2) (by omega)
      have hgl := gi_le (a := t.2) (b := q.2.2) (by omega)
      have cg : ∀ z : Int, CDivW z (gi t.2 q.2.2) := fun z => wide_div hg (b := 4400) (by have := bq.2; omega) (by decide) (by decide)
      have e1 := Nat.lt_of_le_of_lt (ediv_abs hg (gi_r t.2 q.2.2)) bq.2
      have e2 := Nat.lt_of_le_of_lt (ediv_abs hg (gi_l t.2 q.2.2)) bt.2
      refine ⟨_, gd_name, ?_⟩
      walk_at "rd"
      refine ⟨_, q.2, rfl, h1, ?_⟩
      walk_at "rd"
      refine ⟨_, opv_intC (cg _), ?_⟩
      refine ⟨_, opv_intC (mw bt.1 e1), ?_⟩
      walk_at "rd"
      refine ⟨_, opv_intC (cg _), ?_⟩
      refine ⟨_, opv_intC (mw bq.1 e2), ?_⟩
      walk_at "rd"
      refine ⟨_, opv_intC (cg _), ?_⟩
      walk_at "rd"
      refine ⟨_, opv_intC (mw e2 bq.2), ?_⟩
      exact ⟨stepT t q.2, _, _, _, _, rfl, totAt_more ht hq h2 h3⟩
    · obtain ⟨t, b3, b4, b5, b6, rfl, ht⟩ := hJ
      have bt := tot_bd (by rw [List.length_map]; exact hm.len) ht.bd
      walk_at "rd"
      have hp := ht.pos
      refine ⟨by omega, sm_mono bt.2 (by decide), ?_⟩
      have e := total_is (ps := ps.map (·.2)) fun p hp => by
        obtain ⟨q, hq, rfl⟩ := List.mem_map.mp hp
        exact (hm.all q hq).2.1
      have e2 := ht.is
      rw [List.length_map, List.take_length] at e2
      rw [← e2] at e
      show Ψ (.fz (shD (red t.1 t.2)))
      rw [e]
      exact hc
  · refine ⟨_, (pss_cons (ps_asg (pe_glob (v := .ref A.k_NOUGHT) (by rfl) T.m_NOUGHT rfl) (pg_tup (by rfl) (pgs_cons (pg_name (i := 1) sc_total_of.nd rfl (.inl rfl)) (pgs_cons (pg_name (i := 2) sc_total_of.nd rfl (.inl rfl)) pgs_nil))))
        (pss_cons (ps_for PassesOwn.never rfl (pi_tup (pv 0)) (pg_name (i := 3) sc_total_of.nd rfl (.inl rfl)) (pss_cons (ps_asg (pe_call (ok_as_share T) (hr.mono (by decide)) (by rfl) T.m_as_share T.F_as_share.kp (b_as_share T) .nil pass0 (pa_cons (pv 3) pa_nil)) (pg_tup (by rfl) (pgs_cons (pg_name (i := 4) sc_total_of.nd rfl (.inl rfl)) (pgs_cons (pg_name (i := 5) sc_total_of.nd rfl (.inl rfl)) pgs_nil))))
        (pss_cons (ps_set (i := 6) sc_total_of.nd rfl (.inl rfl) (pe_call (ok_common_divisor T) (hr.mono (by decide)) (by rfl) T.m_common_divisor T.F_common_divisor.kp (b_common_divisor T) .nil pass0 (pa_cons (pv 2) (pa_cons (pv 5) pa_nil))))
        (pss_cons (ps_set (i := 1) sc_total_of.nd rfl (.inl rfl) (pe_op op_add (pe_op op_mulW (pv 1) (pe_op op_fdivW (pv 5) (pv 6))) (pe_op op_mulW (pv 4) (pe_op op_fdivW (pv 2) (pv 6)))))
        (pss_one (ps_set (i := 2) sc_total_of.nd rfl (.inl rfl) (pe_op op_mulW (pe_op op_fdivW (pv 2) (pv 6)) (pv 5))))))))
        (pss_one (ps_ret (pe_call (ok_reduced_pair T) (hr.mono (by decide)) (by rfl) T.m_reduced_pair T.F_reduced_pair.kp (b_reduced_pair T) .nil pass0 (pa_cons (pv 1) (pa_cons (pv 2) pa_nil))))))), ?_⟩
    refine body_ok 1 (by decide) l_total_of_2 h (fun Γ ds Ψ Ξ hK hX hF hc ke => ?_)
    subst hK
    obtain ⟨ps, rfl, hm, hc⟩ := hc
    refine sw_seq ?_
    refine sw_unp2 rfl rfl (ew_ref T.k_NOUGHT (fun G => .cons (.int 0) (.cons (.int 1) .nil)) ⟨_, _, rfl, ?_⟩)
    refine sw_seq (sw_forT rfl (ew_var rfl ⟨_, rfl, TotJ ps (.tup (ps.map (·.1))), ⟨(0, 1), none, none, none, none, rfl, rfl, by decide, ⟨by decide, by decide⟩⟩, fun i y ρ2 hi hJ => ?_, fun ρ2 hJ => ?_⟩))
    · obtain ⟨q, hq, rfl⟩ := item_of hi
      obtain ⟨t, b3, b4, b5, b6, rfl, ht⟩ := hJ
      obtain ⟨h1, h2, h3⟩ := hm.all q (List.mem_of_getElem? hq)
      have hi20 : i ≤ 20 := Nat.le_trans (Nat.le_of_lt (List.getElem?_eq_some_iff.mp hq).1) hm.len
      have bt := tot_bd hi20 ht.bd
      have bq : Bd q.2 := ⟨sm_mono h3.1 (by decide), sm_mono h3.2 (by decide)⟩
      have hg := gi_pos (a := t.2) (b := q.2.2) (by omega)
      have hgl := gi_le (a := t.2) (b := q.2.2) (by omega)
      have cg : ∀ z : Int, CDivW z (gi t.2 q.2.2) := fun z => wide_div hg (b := 4400) (by have := bq.2; omega) (by decide) (by decide)
      have e1 := Nat.lt_of_le_of_lt (ediv_abs hg (gi_r t.2 q.2.2)) bq.2
      have e2 := Nat.lt_of_le_of_lt (ediv_abs hg (gi_l t.2 q.2.2)) bt.2
      refine ⟨_, gd_name, ?_⟩
      walk_at "rd"
      refine ⟨_, q.2, rfl, h1, ?_⟩
      walk_at "rd"
      refine ⟨_, opv_intC (cg _), ?_⟩
      refine ⟨_, opv_intC (mw bt.1 e1), ?_⟩
      walk_at "rd"
      refine ⟨_, opv_intC (cg _), ?_⟩
      refine ⟨_, opv_intC (mw bq.1 e2), ?_⟩
      walk_at "rd"
      refine ⟨_, opv_intC (cg _), ?_⟩
      walk_at "rd"
      refine ⟨_, opv_intC (mw e2 bq.2), ?_⟩
      exact ⟨stepT t q.2, _, _, _, _, rfl, totAt_more ht hq h2 h3⟩
    · obtain ⟨t, b3, b4, b5, b6, rfl, ht⟩ := hJ
      have bt := tot_bd (by rw [List.length_map]; exact hm.len) ht.bd
      walk_at "rd"
      have hp := ht.pos
      refine ⟨by omega, sm_mono bt.2 (by decide), ?_⟩
      have e := total_is (ps := ps.map (·.2)) fun p hp => by
        obtain ⟨q, hq, rfl⟩ := List.mem_map.mp hp
        exact (hm.all q hq).2.1
      have e2 := ht.is
      rw [List.length_map, List.take_length] at e2
      rw [← e2] at e
      show Ψ (.fz (shD (red t.1 t.2)))
      rw [e]
      exact hc
end Pf

namespace Pf
open PySem L2 Dl Sh
local macro_rules | `(tactic| walk_at "r0") => `(tactic| with_reducible first
  | refine sw_seq ?_
  | refine ew_var rfl ?_
  | refine ew_int ?_
  | refine ew_bl ?_
  | refine ew_non ?_
  | refine ew_str ?_
  | refine aw_cons ?_
  | refine aw_nil ?_
  | refine sw_par ?_
  | refine sw_next ?_
  | refine sw_if ?_
  | refine sw_ret ?_
  | refine tw_not ?_
  | refine tw_and ?_
  | refine tw_or ?_
  | refine tw_test ?_
  | refine tw_B ?_
  | refine tw_tru rfl ?_
  | refine ew_andV ?_
  | refine ew_orV ?_
  | refine ew_notV ?_
  | refine ew_if ?_
  | refine ew_chain ?_
  | refine ew_isN ?_
  | refine ew_tup ?_
  | refine ew_lst ?_
  | refine ew_isi rfl ?_
  | refine ew_isi2 rfl ?_
  | refine ew_cb ?_
  | refine ew_neg ?_
  | refine ew_op ?_
  | refine ⟨_, opv_int, ?_⟩
  | refine ⟨_, opv_cmp, ?_⟩
  | refine ⟨_, opv_eq, ?_⟩
  | refine ⟨_, opv_ne, ?_⟩
  | refine ⟨_, opv_eqB, ?_⟩
  | refine ⟨_, opv_eqS, ?_⟩
  | refine ⟨_, cbv_abs, ?_⟩
  | refine ⟨_, cbv_int, ?_⟩
  | refine ⟨_, rfl, ?_⟩
  | refine ⟨_, _, rfl, ?_⟩
  | refine br_t ?_
  | refine br_f ?_
  | refine sw_asg ?_)
local macro_rules | `(tactic| walk_at "r1") => `(tactic| first
  | walk_at "r0"
  | ((with_reducible refine ew_callP ?hK trivial ?_); (case hK => rfl))
  | ((with_reducible refine ew_callH ?hK trivial ?_); (case hK => rfl))
  | ((with_reducible refine ew_callR ?hK ?hF ?_); (case hK => rfl); (case hF => assumption))
  | ((with_reducible refine len_ok ?hK ?_); (case hK => rfl))
  | ((with_reducible refine sw_unp2 ?hK ?hn ?_); (case hK => rfl); (case hn => rfl)))
local macro_rules | `(tactic| walk_at "side") => `(tactic| first
  | exact Or.inr (by decide)
  | exact Or.inl (by decide)
  | exact ⟨by decide, by decide⟩
  | exact ⟨by decide, by decide, by decide⟩
  | decide
  | (dsimp only; decide)
  | exact mw (by assumption) (by assumption))
local macro_rules | `(tactic| walk_at "r2") => `(tactic| first
  | walk_at "r1"
  | ((with_reducible refine ⟨_, opv_intC ?hC, ?_⟩); (case hC => walk_at "side"))
  | ((with_reducible refine ⟨_, cbv_lenL ?hK, ?_⟩); (case hK => rfl))
  | ((with_reducible refine ⟨_, cbv_lenT ?hK, ?_⟩); (case hK => rfl))
  | (with_reducible refine ⟨_, opv_ixT (by with_unfolding_all rfl) (by with_unfolding_all rfl), ?_⟩)
  | refine br_t ?_
  | refine br_f ?_)
local macro_rules | `(tactic| walk_at "rd") => `(tactic| repeat (walk_at "r2"))
local macro_rules | `(tactic| walk_at "rs") => `(tactic| repeat ((fail_if_success (with_reducible refine sw_isif ?_)); walk_at "r2"))
local macro_rules | `(tactic| walk_at "nf") => `(tactic| (try simp only [List.set_cons_zero, List.set_cons_succ, Dl.sets, Dl.asD]))

/-- frozen of the empty tuple alone -/
abbrev c_frozen : Cn := fun K w ds Ψ Ξ => ∃ d, ds = [d] ∧ d = .tup [] ∧ Ψ (.fz (.tup []))
/-- frozen calls itself: any depth's promise may stand for the inner call, that is never made -/
theorem ok_frozen0 {P : Program} {w : World} {K : PySem.W.Frag} {mg : Str → Option Value} {base : Heap} {A : Ad} (T : Txt K mg A) : FnOk P w K mg base CX0 1 A.frozen A.fd_frozen ["value"] (fun _ _ _ _ => False) :=
  T.F_frozen.ok sc_frozen (fun _ _ _ _ h => h.elim) (fun _ _ _ _ _ _ _ _ _ h => h.elim)
theorem l_frozen : ∀ K w ds Ψ Ξ, c_frozen K w ds Ψ Ξ → ds.length = 1 := fun K w ds Ψ Ξ h => by
  obtain ⟨_, rfl, _⟩ := h
  rfl
theorem ok_frozen {P : Program} {w : World} {K : PySem.W.Frag} {mg : Str → Option Value} {base : Heap} {A : Ad} (T : Txt K mg A) : FnOk P w K mg base CX0 2 A.frozen A.fd_frozen ["value"] (SpD K AnyR c_frozen) := by
  refine Fun.ok T.F_frozen sc_frozen (fun vs H Q E h => spd_len (l_frozen) h) (fun cdv A' outer s H vs Q E hr h => ⟨_, (pss_cons (ps_if (pt_val (pe_call (ok_is_sequence T) (hr.mono (by decide)) (by rfl) T.m_is_sequence T.F_is_sequence.kp (b_is_sequence T) .nil pass0 (pa_cons (pv 0) pa_nil))) (pss_one (ps_ret (pe_callTy call_tuple_of (by rfl) T.b_tuple (by decide +kernel) (pa_cons (pe_lc (own := [("one", 1)]) (by rfl) sc_frozen.nd (pi_tup (pv 0)) (blkOk_by (own := [("one", 1)]) (N := ["value", "one"]) (sc := defScope s_frozen) (by decide +kernel)) (fun _ _ _ _ _ => (pg_name (i := 1) sc_frozen.nd rfl (.inl rfl))) (fun _ _ _ _ _ => pts_nil) (fun _ _ _ _ _ => (pe_call (ok_frozen0 T) (hr.mono (by decide)) (by rfl) T.m_frozen T.F_frozen.kp (b_frozen T) .nil pass0 (pa_cons (pv 1) pa_nil)))) pa_nil)))) pss_nil)
        (pss_one (ps_ret (pv 0)))), ?_⟩)
  refine body_ok 1 (by decide) (l_frozen) h (fun Γ ds Ψ Ξ hK hX hF hc ke => ?_)
  subst hK
  obtain ⟨d, rfl, rfl, hc⟩ := hc
  walk_at "rd"
  refine ⟨kn_tup, _, rfl, br_t ?_⟩
  refine sw_ret (ew_tupL rfl (ew_of_eb (eb_lcT rfl (ew_var rfl ⟨_, rfl, gw_name (by decide), fun j hj es => ?_, Nat.zero_le _, fun i acc => acc = [], rfl, fun i x acc c h => by simp at h, fun acc ha => ⟨[], ?_, hc⟩⟩))))
  · rw [List.mem_singleton.mp hj]
    intro z
    cases z
  · rw [ha]
abbrev c_is_tie : Cn := fun K w ds Ψ Ξ => ∃ a b : D, ds = [a, b] ∧ False
theorem l_is_tie : ∀ K w ds Ψ Ξ, c_is_tie K w ds Ψ Ξ → ds.length = 2 := fun K w ds Ψ Ξ h => by
  obtain ⟨_, _, rfl, _⟩ := h
  rfl
theorem ok_is_tie {P : Program} {w : World} {K : PySem.W.Frag} {mg : Str → Option Value} {base : Heap} {A : Ad} (T : Txt K mg A) : FnOk P w K mg base CX0 3 A.is_tie A.fd_is_tie ["value", "size"] (SpD K AnyR c_is_tie) := by
  refine Fun.ok T.F_is_tie sc_is_tie (fun vs H Q E h => spd_len (l_is_tie) h) (fun cdv A' outer s H vs Q E hr h => ⟨_, (pss_cons (ps_if (pt_not (pt_val (pe_call (ok_is_pair T) (hr.mono (by decide)) (by rfl) T.m_is_pair T.F_is_pair.kp (b_is_pair T) .nil pass0 (pa_cons (pv 0) pa_nil)))) (pss_one (ps_ret pe_bl)) pss_nil)
        (pss_cons (ps_asg (pv 0) (pg_tup (by rfl) (pgs_cons (pg_name (i := 2) sc_is_tie.nd rfl (.inl rfl)) (pgs_cons (pg_name (i := 3) sc_is_tie.nd rfl (.inl rfl)) pgs_nil))))
        (pss_one (ps_ret (pe_and (pe_call (ok_is_number_below T) (hr.mono (by decide)) (by rfl) T.m_is_number_below T.F_is_number_below.kp (b_is_number_below T) .nil pass0 (pa_cons (pv 3) (pa_cons (pv 1) pa_nil))) (pe_one (pe_call (ok_is_number_below T) (hr.mono (by decide)) (by rfl) T.m_is_number_below T.F_is_number_below.kp (b_is_number_below T) .nil pass0 (pa_cons (pv 2) (pa_cons (pe_op op_add (pv 3) pe_int) pa_nil))))))))), ?_⟩)
  refine body_ok 2 (by decide) (l_is_tie) h (fun Γ ds Ψ Ξ hK hX hF hc ke => ?_)
  subst hK
  obtain ⟨a, b, rfl, h⟩ := hc
  exact h.elim
/-- of webs without ties alone -/
abbrev c_is_web : Cn := fun K w ds Ψ Ξ => ∃ n : Int, ds = [.int n, .tup []] ∧ 0 ≤ n ∧ Ψ (.fz (.bl true))
theorem l_is_web : ∀ K w ds Ψ Ξ, c_is_web K w ds Ψ Ξ → ds.length = 2 := fun K w ds Ψ Ξ h => by
  obtain ⟨_, rfl, _⟩ := h
  rfl
theorem ok_is_web {P : Program} {w : World} {K : PySem.W.Frag} {mg : Str → Option Value} {base : Heap} {A : Ad} (T : Txt K mg A) : FnOk P w K mg base CX0 4 A.is_web A.fd_is_web ["size", "ties"] (SpD K AnyR c_is_web) := by
  refine Fun.ok T.F_is_web sc_is_web (fun vs H Q E h => spd_len (l_is_web) h) (fun cdv A' outer s H vs Q E hr h => ⟨_, (pss_cons (ps_if (PW.pt (pw_or (pt_not (pt_val (pe_call (ok_is_number T) (hr.mono (by decide)) (by rfl) T.m_is_number T.F_is_number.kp (b_is_number T) .nil pass0 (pa_cons (pv 0) pa_nil)))) (pw_or1 (pt_not (pt_val (pe_callB call_isi (by rfl) T.b_isinstance (by decide +kernel) (pa_cons (pv 1) (pa_cons (pe_bltn (v := .ty "tuple") (by rfl) T.b_tuple (by decide +kernel) rfl) pa_nil)))))))) (pss_one (ps_ret pe_bl)) pss_nil)
        (pss_one (ps_ret (pe_callB (cr_all rfl) (by rfl) T.b_all (by decide +kernel) (pa_cons (pe_lc (own := [("tie", 2)]) (by rfl) sc_is_web.nd (pi_tup (pv 1)) (blkOk_by (own := [("tie", 2)]) (N := ["size", "ties", "tie"]) (sc := defScope s_is_web) (by decide +kernel)) (fun _ _ _ _ _ => (pg_name (i := 2) sc_is_web.nd rfl (.inl rfl))) (fun _ _ _ _ _ => pts_nil) (fun _ _ _ _ _ => (pe_call (ok_is_tie T) (hr.mono (by decide)) (by rfl) T.m_is_tie T.F_is_tie.kp (b_is_tie T) .nil pass0 (pa_cons (pv 2) (pa_cons (pv 0) pa_nil))))) pa_nil))))), ?_⟩)
  refine body_ok 2 (by decide) (l_is_web) h (fun Γ ds Ψ Ξ hK hX hF hc ke => ?_)
  subst hK
  obtain ⟨n, rfl, h0, hc⟩ := hc
  walk_at "rd"
  refine ⟨kn_int, _, rfl, ?_⟩
  have e : isNumD (.int n) = true := decide_eq_true h0
  rw [e]
  refine br_f ?_
  walk_at "rd"
  refine ⟨_, _, rfl, kit_tuple (d := .tup []) rfl, _, rfl, br_f ?_⟩
  walk_at "rd"
  refine ew_of_eb (eb_lcT rfl (ew_var rfl ⟨_, rfl, gw_name (by decide), fun j hj es => ?_, Nat.zero_le _, fun i acc => acc = [], rfl, fun i x acc c h => by simp at h, fun acc ha => ?_⟩))
  · rw [List.mem_singleton.mp hj]
    intro z
    cases z
  · subst ha
    exact aw_nil ⟨_, cbv_all (bs := []) rfl, hc⟩
theorem ok_InvalidWeb__init {P : Program} {w : World} {K : PySem.W.Frag} {mg : Str → Option Value} {base : Heap} {A : Ad} (T : Txt K mg A) : FnOk P w K mg base CX0 1 A.InvalidWeb__init A.fd_InvalidWeb__init ["self", "value"] (spInit K A.c_InvalidWeb "value") := by
  refine T.F_InvalidWeb__init.ok sc_InvalidWeb__init (fun vs H Q E h => by obtain ⟨_, _, rfl, _⟩ := h; rfl) (fun cdv A' outer s H vs Q E hr h => ⟨_, (pss_one (ps_ost (pv 0) (pv 1))), body_init T.ox_InvalidWeb T.no_InvalidWeb_value rfl h⟩)
abbrev c_Web (A : Ad) : Cn := fun K w ds Ψ Ξ => ∃ n : Int, ds = [.int n, .tup []] ∧ 0 ≤ n ∧ Ψ (.ow (.obj A.c_Web [("size", .int n), ("ties", .tup [])]))
theorem l_Web__init (A : Ad) : ∀ K w ds Ψ Ξ, c_Web A K w ds Ψ Ξ → ds.length = 2 := fun K w ds Ψ Ξ h => by
  obtain ⟨_, rfl, _⟩ := h
  rfl
theorem ok_Web__init {P : Program} {w : World} {K : PySem.W.Frag} {mg : Str → Option Value} {base : Heap} {A : Ad} (T : Txt K mg A) : FnOk P w K mg base (L2N.CX P w) 5 A.Web__init A.fd_Web__init ["self", "size", "ties"] (SpI K A.c_Web (c_Web A)) := by
  refine okN T.F_Web__init sc_Web__init (fun vs H Q E h => spi_len (l_Web__init A) h) (fun cdv A' outer s H vs Q E hr h => ⟨_, (pss_cons (ps_set (i := 3) sc_Web__init.nd rfl (.inl rfl) (pe_call (ok_frozen T) (hr.mono (by decide)) (by rfl) T.m_frozen T.F_frozen.kp (b_frozen T) .nil pass0 (pa_cons (pv 2) pa_nil)))
        (pss_cons (ps_if (pt_not (pt_val (pe_call (ok_is_web T) (hr.mono (by decide)) (by rfl) T.m_is_web T.F_is_web.kp (b_is_web T) .nil pass0 (pa_cons (pv 1) (pa_cons (pv 3) pa_nil))))) (pss_one (L2N.ps_raise rfl (L2N.takes_of rfl rfl rfl rfl) (made_own T.ox_InvalidWeb T.i_InvalidWeb T.t_InvalidWeb (ok_InvalidWeb__init T) (hr.mono (by decide)) (b_InvalidWeb__init T) (fun _ _ _ _ _ _ _ h => h.elim) (by rfl) T.m_InvalidWeb (pa_cons (pe_tup (pa_cons (pv 1) (pa_cons (pv 2) pa_nil))) pa_nil)))) pss_nil)
        (pss_cons (ps_fld (pv 0) (pv 1) rfl)
        (pss_one (ps_fld (pv 0) (pv 3) rfl))))), ?_⟩)
  refine body_mk 2 (by decide) (l_Web__init A) h (fun Γ x dx ds Ψ Ξ hK hc ke => ?_)
  subst hK
  obtain ⟨n, rfl, h0, hc⟩ := hc
  refine mk_pre (Ξ := Ξ) fun c => ?_
  walk_at "rd"
  refine ⟨rfl, mk_pre (Ξ := Ξ) fun c => ?_⟩
  walk_at "rd"
  refine ⟨h0, _, rfl, br_f ?_⟩
  walk_at "rd"
  refine mk_fld (Ξ := Ξ) rfl T.cl_Web T.no_Web_size (by decide) fun c => ?_
  walk_at "rd"
  refine ⟨rfl, mk_last (Ξ := Ξ) rfl T.cl_Web T.no_Web_ties (Nat.le_of_ble_eq_true rfl) fun c => ?_⟩
  walk_at "rd"
  exact ⟨rfl, hc⟩
end Pf

namespace Pf
open PySem L2 Dl Sh
open Evl (Ex)
local macro_rules | `(tactic| walk_at "r0") => `(tactic| with_reducible first
  | refine sw_seq ?_
  | refine ew_var rfl ?_
  | refine ew_int ?_
  | refine ew_bl ?_
  | refine ew_non ?_
  | refine ew_str ?_
  | refine aw_cons ?_
  | refine aw_nil ?_
  | refine sw_par ?_
  | refine sw_next ?_
  | refine sw_if ?_
  | refine sw_ret ?_
  | refine tw_not ?_
  | refine tw_and ?_
  | refine tw_or ?_
  | refine tw_test ?_
  | refine tw_B ?_
  | refine tw_tru rfl ?_
  | refine ew_andV ?_
  | refine ew_orV ?_
  | refine ew_notV ?_
  | refine ew_if ?_
  | refine ew_chain ?_
  | refine ew_isN ?_
  | refine ew_tup ?_
  | refine ew_lst ?_
  | refine ew_isi rfl ?_
  | refine ew_isi2 rfl ?_
  | refine ew_cb ?_
  | refine ew_neg ?_
  | refine ew_op ?_
  | refine ⟨_, opv_int, ?_⟩
  | refine ⟨_, opv_cmp, ?_⟩
  | refine ⟨_, opv_eq, ?_⟩
  | refine ⟨_, opv_ne, ?_⟩
  | refine ⟨_, opv_eqB, ?_⟩
  | refine ⟨_, opv_eqS, ?_⟩
  | refine ⟨_, cbv_abs, ?_⟩
  | refine ⟨_, cbv_int, ?_⟩
  | refine ⟨_, rfl, ?_⟩
  | refine ⟨_, _, rfl, ?_⟩
  | refine br_t ?_
  | refine br_f ?_
  | refine sw_asg ?_)
local macro_rules | `(tactic| walk_at "r1") => `(tactic| first
  | walk_at "r0"
  | ((with_reducible refine ew_callP ?hK trivial ?_); (case hK => rfl))
  | ((with_reducible refine ew_callH ?hK trivial ?_); (case hK => rfl))
  | ((with_reducible refine ew_callR ?hK ?hF ?_); (case hK => rfl); (case hF => assumption))
  | ((with_reducible refine len_ok ?hK ?_); (case hK => rfl))
  | ((with_reducible refine sw_unp2 ?hK ?hn ?_); (case hK => rfl); (case hn => rfl)))
local macro_rules | `(tactic| walk_at "side") => `(tactic| first
  | exact Or.inr (by decide)
  | exact Or.inl (by decide)
  | exact ⟨by decide, by decide⟩
  | exact ⟨by decide, by decide, by decide⟩
  | decide
  | (dsimp only; decide)
  | exact mw (by assumption) (by assumption))
local macro_rules | `(tactic| walk_at "r2") => `(tactic| first
  | walk_at "r1"
  | ((with_reducible refine ⟨_, opv_intC ?hC, ?_⟩); (case hC => walk_at "side"))
  | ((with_reducible refine ⟨_, cbv_lenL ?hK, ?_⟩); (case hK => rfl))
  | ((with_reducible refine ⟨_, cbv_lenT ?hK, ?_⟩); (case hK => rfl))
  | (with_reducible refine ⟨_, opv_ixT (by with_unfolding_all rfl) (by with_unfolding_all rfl), ?_⟩)
  | refine br_t ?_
  | refine br_f ?_)
local macro_rules | `(tactic| walk_at "rd") => `(tactic| repeat (walk_at "r2"))
local macro_rules | `(tactic| walk_at "rs") => `(tactic| repeat ((fail_if_success (with_reducible refine sw_isif ?_)); walk_at "r2"))
local macro_rules | `(tactic| walk_at "nf") => `(tactic| (try simp only [List.set_cons_zero, List.set_cons_succ, Dl.sets, Dl.asD]))

/-! the well: what the laws draw from -/
def wellR (w : Addr) : Rsc := ⟨w, (· = w), fun H => ∃ c s : Int, H w = some (.lst [.int c, .int s]) ∧ 0 ≤ c ∧ 0 ≤ s, fun H H' ⟨c, s, h, h1, h2⟩ k => ⟨c, s, (k w rfl).trans h, h1, h2⟩, fun H a ⟨c, s, h, _⟩ e => by
  subst e
  rw [h]
  simp⟩
def IsWell (R : Rsc) : Prop := ∃ w, R = wellR w
/-- a well of one's own becomes what is drawn from -/
theorem sw_well {Γ : Dl.Ctx} {ts : TS} {ρ : Dl.Env} {Δ : Dl.Fin} {i : Nat} {c s : Int} (hR : Γ.R = Rsc.no) (hX : Γ.X = []) (hi : ρ[i]? = some (some (.ow (.lst [.int c, .int s])))) (h1 : 0 ≤ c) (h2 : 0 ≤ s)
    (h : ∀ w, SW { Γ with R := wellR w } ts (ρ.set i (some (.fz (.ptr w)))) Δ) : SW Γ ts ρ Δ := fun σ G H D k hn hr hb hc => by
  obtain ⟨K, G0, H0, R, X⟩ := Γ
  cases hR
  cases hX
  obtain ⟨a, xs, g0, g1, g2⟩ := k.lst hi
  obtain ⟨z1, z2, _, z4⟩ := own_in k ⟨g0, _, hi⟩ |> fun ⟨o, p, q, r, t⟩ => (⟨⟨o, p⟩, q, r, t⟩ : (∃ o, H a = some o) ∧ G a = none ∧ _ ∧ H0 a = none)
  have hlt : i < ρ.length := (List.getElem?_eq_some_iff.mp hi).1
  have exs : xs = [.int c, .int s] := by
    cases g2 with
    | cons r1 r2 => cases r2 with
      | cons r2 r3 => cases r3; cases r1; cases r2; rfl
  subst exs
  have back : ∀ j b, own σ (ρ.set i (some (.fz (.ptr a)))) j b → own σ ρ j b ∧ j ≠ i := fun j b ⟨p, es, q⟩ => by
    by_cases hj : j = i
    · subst hj
      rw [List.getElem?_set_self hlt] at q
      cases q
    · rw [List.getElem?_set_ne (Ne.symm hj)] at q
      exact ⟨⟨p, es, q⟩, hj⟩
  have nF : ∀ j b, own σ (ρ.set i (some (.fz (.ptr a)))) j b → b ≠ a := fun j b o e => by
    obtain ⟨o1, o2⟩ := back j b o
    subst e
    exact o2 (k.dj j i b o1 ⟨g0, _, hi⟩)
  have k' : Ok (⟨K, G0, H0, wellR a, []⟩ : Dl.Ctx) G H σ (ρ.set i (some (.fz (.ptr a)))) := by
    refine ⟨k.gh, k.g0, k.nw, fun b o _ h => k.fr b o (fun z => z) h, k.dm, ⟨c, s, g1, h1, h2⟩, fun b e => by rw [show b = a from e]; exact z2, by rw [List.length_set]; exact k.len, fun j b h => ?_, fun j l b o1 o2 => k.dj j l b (back j b o1).1 (back l b o2).1, fun p hp => absurd hp (by simp), fun j b _ p hp => absurd hp (by simp)⟩
    by_cases hj : j = i
    · subst hj
      rw [List.getElem?_set_self hlt] at h
      cases h
      exact ⟨_, g0, Rep.ptr a⟩
    · rw [List.getElem?_set_ne (Ne.symm hj)] at h
      obtain ⟨v, e1, e2⟩ := k.var j b h
      refine ⟨v, e1, ?_⟩
      cases b with
      | fz d => exact e2
      | ow es =>
        obtain ⟨b, o, rfl, q1, q2, q3, q4, q5⟩ := e2
        exact ⟨b, o, rfl, q1, q2, q3, fun e => hj (k.dj j i a ⟨by rw [e1, show b = a from e], es, h⟩ ⟨g0, _, hi⟩), q5⟩
  have un : ∀ {G' H' : Hp} {σ' : St} {ρ' : Dl.Env}, Ok (⟨K, G0, H0, wellR a, []⟩ : Dl.Ctx) G' H' σ' ρ' → Ok (⟨K, G0, H0, Rsc.no, []⟩ : Dl.Ctx) G' H' σ' ρ' := fun k => by
    refine ⟨k.gh, k.g0, k.nw, fun b o _ h => ?_, k.dm, trivial, fun b e => e.elim, k.len, fun j b h => ?_, k.dj, fun p hp => absurd hp (by simp), fun j b _ p hp => absurd hp (by simp)⟩
    · exact k.fr b o (fun e => by
        have e' : b = a := e
        rw [e'] at h
        have h' : H0 a = some o := h
        rw [z4] at h'
        cases h') h
    · obtain ⟨v, e1, e2⟩ := k.var j b h
      refine ⟨v, e1, ?_⟩
      cases b with
      | fz d => exact e2
      | ow es =>
        obtain ⟨b, o, rfl, q1, q2, q3, q4, q5⟩ := e2
        exact ⟨b, o, rfl, q1, q2, q3, fun e => e, q5⟩
  refine h a σ G H D k' (fun ρ' σ' G' H' e k' p => hn ρ' σ' G' H' e (un k') p) (fun b v σ' ρ' G' H' k' r p => hr b v σ' ρ' G' H' (un k') ?_ p) (fun ρ' σ' G' H' e k' p => hb ρ' σ' G' H' e (un k') p) (fun ρ' σ' G' H' e k' p => hc ρ' σ' G' H' e (un k') p)
  obtain ⟨r1, r2⟩ := r
  refine ⟨?_, r2⟩
  cases b with
  | fz d => exact r1
  | ow es =>
    obtain ⟨b, o, e, q1, q2, q3, q4, q5⟩ := r1
    exact ⟨b, o, e, q1, q2, q3, fun e => e, q5⟩
abbrev c__law_draw : Cn := fun K w ds Ψ Ξ => ∃ many : Int, ds = [.ptr w, .int many] ∧ 1 ≤ many ∧ many < 1073741824 ∧ ∀ d : Int, 0 ≤ d → d < many → Ψ (.fz (.int d))
theorem l__law_draw : ∀ K w ds Ψ Ξ, c__law_draw K w ds Ψ Ξ → ds.length = 2 := fun K w ds Ψ Ξ h => by
  obtain ⟨_, rfl, _⟩ := h
  rfl
theorem if_of {c A B : Prop} [Decidable c] {b : Bool} (e : decide c = b) (h1 : c → A) (h2 : ¬ c → B) : if b = true then A else B := by
  by_cases h : c
  · rw [← e, decide_eq_true h, if_pos rfl]
    exact h1 h
  · rw [← e, decide_eq_false h, if_neg Bool.false_ne_true]
    exact h2 h
theorem ok__law_draw {P : Program} {w : World} {K : PySem.W.Frag} {mg : Str → Option Value} {base : Heap} {A : Ad} (T : Txt K mg A) : FnOk P w K mg base CX0 1 A._law_draw A.fd__law_draw ["well", "many"] (SpD K IsWell c__law_draw) := by
  refine T.F__law_draw.ok sc__law_draw (fun vs H Q E h => spd_len l__law_draw h) (fun cdv A' outer s H vs Q E hr h => ⟨_,
(pss_cons (ps_if (pt_cmpR op_gt (pe_ix ix_list (pv 0) pe_int (fun _ _ => rfl)) pe_int (nomark _)) (pss_cons (ps_set (i := 2) sc__law_draw.nd rfl (.inl rfl) (pe_op op_mod (pe_callTy call_int1 (by rfl) T.b_int (by decide +kernel) (pa_cons (pe_ix ix_list (pv 0) pe_int (fun _ _ => rfl)) pa_nil)) (pv 1)))
        (pss_cons (ps_asg (pe_op op_fdiv (pe_ix ix_list (pv 0) pe_int (fun _ _ => rfl)) (pv 1)) (pg_sub (pv 0) pe_int set_list))
        (pss_one (ps_ret (pv 2))))) pss_nil)
        (pss_cons (ps_asg (pe_op op_mod (pe_callTy call_int1 (by rfl) T.b_int (by decide +kernel) (pa_cons (pe_op op_add (pe_op op_mul (pe_ix ix_list (pv 0) pe_int (fun _ _ => rfl)) pe_int) pe_int) pa_nil)) pe_int) (pg_sub (pv 0) pe_int set_list))
        (pss_cons (ps_set (i := 3) sc__law_draw.nd rfl (.inl rfl) (pe_op op_mod (pe_callTy call_int1 (by rfl) T.b_int (by decide +kernel) (pa_cons (pe_op op_add (pe_op op_mul (pe_op op_fdiv (pe_ix ix_list (pv 0) pe_int (fun _ _ => rfl)) pe_int) (pe_op op_add (pe_op op_mod (pe_ix ix_list (pv 0) pe_int (fun _ _ => rfl)) pe_int) pe_int)) (pe_op op_fdiv (pe_ix ix_list (pv 0) pe_int (fun _ _ => rfl)) pe_int)) pa_nil)) pe_int))
        (pss_one (ps_ret (pe_op op_mod (pe_callTy call_int1 (by rfl) T.b_int (by decide +kernel) (pa_cons (pe_op op_fdiv (pv 3) pe_int) pa_nil)) (pv 1)))))))
    , ?_⟩)
  obtain ⟨R, G, ds, Ψ, Ξ, ⟨w, rfl⟩, ⟨c, s, hw, h1, h2⟩, hg, hG, rl, ⟨many, rfl, m1, m2, hc⟩, kq, ke⟩ := h
  cases rl with
  | cons r1 rl => cases rl with
    | cons r2 rl =>
      cases rl
      cases r1
      cases r2
      have hG2 : ∀ o, Ex G (upd H w o) := fun o b u h => by
        rw [upd_ne fun e => by rw [e, hg w rfl] at h; cases h]
        exact hG b u h
      have aft : ∀ c' s' : Int, 0 ≤ c' → 0 ≤ s' → Aft (wellR w) G H G (upd H w (.lst [.int c', .int s'])) := fun c' s' g1 g2 =>
        ⟨Ex.refl G, hG2 _, ⟨c', s', upd_same, g1, g2⟩, hg, fun b h _ => h, fun b o n h => by rw [upd_ne fun e => n e]; exact h, fun b h => by
          by_cases e : b = w
          · rw [e, upd_same]; simp
          · rw [upd_ne e]; exact h⟩
      refine ⟨_, rfl, w, _, _, _, rfl, rfl, SqL.of hw, rfl, _, _, rfl, rfl, _, rfl, ?_⟩
      refine if_of (c := 0 < c) rfl (fun hp => ?_) fun hp => ?_
      · refine ⟨_, rfl, w, _, _, _, rfl, rfl, SqL.of hw, rfl, .inl ⟨_, rfl, _, rfl, _, _, rfl, rfl, by omega, ?_⟩⟩
        refine ⟨_, rfl, w, _, _, _, rfl, rfl, SqL.of hw, rfl, _, rfl, _, _, rfl, rfl, ⟨by omega, m2⟩, _, rfl, w, _, _, _, rfl, rfl, hw, rfl, ?_⟩
        exact ⟨_, rfl, kq (.fz (.int (c % many))) _ G _ (aft (c / many) s (Int.ediv_nonneg h1 (by omega)) h2) (Rep.int _) (hc _ (Int.emod_nonneg _ (by omega)) (Int.emod_lt_of_pos _ (by omega)))⟩
      · refine ⟨_, rfl, w, _, _, _, rfl, rfl, SqL.of hw, rfl, _, _, rfl, rfl, .inr (by decide), _, _, rfl, rfl, .inl ⟨_, rfl, _, _, rfl, rfl, (by show (0 : Int) < 2147483647; decide), _, rfl, w, _, _, _, rfl, rfl, hw, rfl, ?_⟩⟩
        obtain ⟨s', hs'⟩ : ∃ s' : Int, s' = (s * 48271 + 12345) % 2147483647 := ⟨_, rfl⟩
        have s0 : 0 ≤ s' := by rw [hs']; exact Int.emod_nonneg _ (by decide)
        have s1 : s' < 2147483647 := by rw [hs']; exact Int.emod_lt_of_pos _ (by decide)
        have e0 : upd H w (HO.lst ([V.int c, V.int s].set (Int.toNat 1) ((fun i j => V.int (i % j)) (s * 48271 + 12345) 2147483647))) = upd H w (.lst [.int c, .int s']) := by rw [hs']; rfl
        rw [e0]
        have hw' : upd H w (.lst [.int c, .int s']) w = some (.lst [.int c, .int s']) := upd_same
        refine ⟨_, rfl, w, _, _, _, rfl, rfl, SqL.of hw', rfl, _, _, rfl, rfl, ⟨by decide, by decide⟩, _, rfl, w, _, _, _, rfl, rfl, SqL.of hw', rfl, _, _, rfl, rfl, (by show (0 : Int) < 32768; decide), _, _, rfl, rfl, _, _, rfl, rfl, .inl ?_, ?_⟩
        · constructor <;> omega
        refine ⟨_, rfl, w, _, _, _, rfl, rfl, SqL.of hw', rfl, _, _, rfl, rfl, ⟨by decide, by decide⟩, _, _, rfl, rfl, .inl ⟨_, rfl, _, _, rfl, rfl, (by show (0 : Int) < 2147483629; decide), ?_⟩⟩
        refine ⟨_, rfl, _, _, rfl, rfl, ⟨by decide, by decide⟩, .inl ⟨_, rfl, _, rfl, _, _, rfl, rfl, by omega, ?_⟩⟩
        exact kq (.fz (.int _)) _ G _ (aft c s' h1 s0) (Rep.int _) (hc _ (Int.emod_nonneg _ (by omega)) (Int.emod_lt_of_pos _ (by omega)))
abbrev c__law_well : Cn := fun K w ds Ψ Ξ => ∃ (ns : List Int) (k : Int), ds = [.lst (ns.map D.int), .int k] ∧ 0 ≤ k ∧ k < 1000 ∧ ∀ c s : Int, 0 ≤ c → 0 ≤ s → Ψ (.ow (.lst [.int c, .int s]))
theorem int_at {ns : List Int} {k : Int} (h0 : 0 ≤ k) (h : k < ((ns.map D.int).length : Int)) : ∃ z, atI (ns.map D.int) k = some (.int z) := by
  obtain ⟨n, rfl⟩ := Int.eq_ofNat_of_zero_le h0
  have hn : n < ns.length := by rw [List.length_map] at h; omega
  exact ⟨ns[n], at_nat (by rw [List.getElem?_map, List.getElem?_eq_getElem hn]; rfl)⟩
theorem l__law_well : ∀ K w ds Ψ Ξ, c__law_well K w ds Ψ Ξ → ds.length = 2 := fun K w ds Ψ Ξ h => by
  obtain ⟨_, _, rfl, _⟩ := h
  rfl
theorem ok__law_well {P : Program} {w : World} {K : PySem.W.Frag} {mg : Str → Option Value} {base : Heap} {A : Ad} (T : Txt K mg A) : FnOk P w K mg base CX0 1 A._law_well A.fd__law_well ["script", "k"] (SpD K AnyR c__law_well) := by
  refine Fun.ok T.F__law_well sc__law_well (fun vs H Q E h => spd_len (l__law_well) h) (fun cdv A' outer s H vs Q E hr h => ⟨_, (pss_cons (ps_set (i := 2) sc__law_well.nd rfl (.inl rfl) pe_int)
        (pss_cons (ps_if (pt_cmpR op_lt (pv 1) (pe_callB call_len_seq (by rfl) T.b_len (by decide +kernel) (pa_cons (pv 0) pa_nil)) (nomark _)) (pss_one (ps_set (i := 2) sc__law_well.nd rfl (.inl rfl) (pe_callB call_abs (by rfl) T.b_abs (by decide +kernel) (pa_cons (pe_callTy call_int1 (by rfl) T.b_int (by decide +kernel) (pa_cons (pe_ix ix_list (pv 0) (pv 1) (fun _ _ => rfl)) pa_nil)) pa_nil)))) pss_nil)
        (pss_cons (ps_set (i := 3) sc__law_well.nd rfl (.inl rfl) (pe_op op_mod (pe_callTy call_int1 (by rfl) T.b_int (by decide +kernel) (pa_cons (pe_op op_add (pe_op op_add (pe_op op_mul (pv 2) pe_int) (pe_op op_mul pe_int (pv 1))) pe_int) pa_nil)) pe_int))
        (pss_cons (ps_set (i := 3) sc__law_well.nd rfl (.inl rfl) (pe_op op_mod (pe_callTy call_int1 (by rfl) T.b_int (by decide +kernel) (pa_cons (pe_op op_add (pe_op op_add (pe_op op_mul (pv 3) (pv 3)) (pe_op op_mul pe_int (pv 1))) pe_int) pa_nil)) pe_int))
        (pss_cons (ps_if (pt_cmpR op_lt (pv 2) (pe_op op_pow pe_int pe_int) (nomark _)) (pss_one (ps_set (i := 2) sc__law_well.nd rfl (.inl rfl) pe_int)) pss_nil)
        (pss_one (ps_ret (pe_lst (pa_cons (pv 2) (pa_cons (pv 3) pa_nil)))))))))), ?_⟩)
  refine body_ok 2 (by decide) (l__law_well) h (fun Γ ds Ψ Ξ hK hX hF hc ke => ?_)
  subst hK
  obtain ⟨ns, k, rfl, k0, k1, hc⟩ := hc
  walk_at "rs"
  refine sw_cut (fun ρ => ∃ c : Int, ρ = [some (.fz (.lst (ns.map D.int))), some (.fz (.int k)), some (.fz (.int c)), none] ∧ 0 ≤ c) ?_ ?_
  · walk_at "rd"
    refine ⟨fun h1 => ?_, fun h1 => ?_⟩
    · obtain ⟨z, hz⟩ := int_at k0 (of_decide_eq_true h1)
      walk_at "rd"
      refine ⟨_, opv_ixL rfl hz, ?_⟩
      walk_at "rd"
      rw [abs_if]
      omega
    · walk_at "rd"
      decide
  · rintro ρ ⟨c, rfl, c0⟩
    walk_at "rd"
    have s0 := Int.emod_nonneg (c * 37 + 7727 * k + 1009) (show (2147483647 : Int) ≠ 0 by decide)
    have s1 := Int.emod_lt_of_pos (c * 37 + 7727 * k + 1009) (show (0 : Int) < 2147483647 by decide)
    refine ⟨_, opv_intC (.inl (by constructor <;> omega)), ?_⟩
    walk_at "rs"
    generalize (c * 37 + 7727 * k + 1009) % 2147483647 = s at s0 s1 ⊢
    have t0 := Int.emod_nonneg (s * s + 90001 * k + 17) (show (2147483629 : Int) ≠ 0 by decide)
    generalize (s * s + 90001 * k + 17) % 2147483629 = t at t0 ⊢
    refine sw_cut (fun ρ => ∃ c : Int, ρ = [some (.fz (.lst (ns.map D.int))), some (.fz (.int k)), some (.fz (.int c)), some (.fz (.int t))] ∧ 0 ≤ c) ?_ ?_
    · walk_at "rd"
      refine ⟨fun h1 => ?_, fun h1 => ?_⟩
      · walk_at "rd"
        decide
      · walk_at "rd"
        exact c0
    · rintro ρ ⟨c, rfl, c0⟩
      exact sw_retB (eb_lst (aw_cons (ew_var rfl (aw_cons (ew_var rfl (aw_nil (len_ok rfl (hc c t c0 t0))))))))
end Pf

namespace Pf
open PySem L2 Dl Sh
open Evl (Ex)
local macro_rules | `(tactic| walk_at "r0") => `(tactic| with_reducible first
  | refine sw_seq ?_
  | refine ew_var rfl ?_
  | refine ew_int ?_
  | refine ew_bl ?_
  | refine ew_non ?_
  | refine ew_str ?_
  | refine aw_cons ?_
  | refine aw_nil ?_
  | refine sw_par ?_
  | refine sw_next ?_
  | refine sw_if ?_
  | refine sw_ret ?_
  | refine tw_not ?_
  | refine tw_and ?_
  | refine tw_or ?_
  | refine tw_test ?_
  | refine tw_B ?_
  | refine tw_tru rfl ?_
  | refine ew_andV ?_
  | refine ew_orV ?_
  | refine ew_notV ?_
  | refine ew_if ?_
  | refine ew_chain ?_
  | refine ew_isN ?_
  | refine ew_tup ?_
  | refine ew_lst ?_
  | refine ew_isi rfl ?_
  | refine ew_isi2 rfl ?_
  | refine ew_cb ?_
  | refine ew_neg ?_
  | refine ew_op ?_
  | refine ⟨_, opv_int, ?_⟩
  | refine ⟨_, opv_cmp, ?_⟩
  | refine ⟨_, opv_eq, ?_⟩
  | refine ⟨_, opv_ne, ?_⟩
  | refine ⟨_, opv_eqB, ?_⟩
  | refine ⟨_, opv_eqS, ?_⟩
  | refine ⟨_, cbv_abs, ?_⟩
  | refine ⟨_, cbv_int, ?_⟩
  | refine ⟨_, rfl, ?_⟩
  | refine ⟨_, _, rfl, ?_⟩
  | refine br_t ?_
  | refine br_f ?_
  | refine sw_asg ?_)
local macro_rules | `(tactic| walk_at "r1") => `(tactic| first
  | walk_at "r0"
  | ((with_reducible refine ew_callP ?hK trivial ?_); (case hK => rfl))
  | ((with_reducible refine ew_callH ?hK trivial ?_); (case hK => rfl))
  | ((with_reducible refine ew_callR ?hK ?hF ?_); (case hK => rfl); (case hF => assumption))
  | ((with_reducible refine len_ok ?hK ?_); (case hK => rfl))
  | ((with_reducible refine sw_unp2 ?hK ?hn ?_); (case hK => rfl); (case hn => rfl)))
local macro_rules | `(tactic| walk_at "side") => `(tactic| first
  | exact Or.inr (by decide)
  | exact Or.inl (by decide)
  | exact ⟨by decide, by decide⟩
  | exact ⟨by decide, by decide, by decide⟩
  | decide
  | (dsimp only; decide)
  | exact mw (by assumption) (by assumption))
local macro_rules | `(tactic| walk_at "r2") => `(tactic| first
  | walk_at "r1"
  | ((with_reducible refine ⟨_, opv_intC ?hC, ?_⟩); (case hC => walk_at "side"))
  | ((with_reducible refine ⟨_, cbv_lenL ?hK, ?_⟩); (case hK => rfl))
  | ((with_reducible refine ⟨_, cbv_lenT ?hK, ?_⟩); (case hK => rfl))
  | (with_reducible refine ⟨_, opv_ixT (by with_unfolding_all rfl) (by with_unfolding_all rfl), ?_⟩)
  | refine br_t ?_
  | refine br_f ?_)
local macro_rules | `(tactic| walk_at "rd") => `(tactic| repeat (walk_at "r2"))
local macro_rules | `(tactic| walk_at "rs") => `(tactic| repeat ((fail_if_success (with_reducible refine sw_isif ?_)); walk_at "r2"))
local macro_rules | `(tactic| walk_at "nf") => `(tactic| (try simp only [List.set_cons_zero, List.set_cons_succ, Dl.sets, Dl.asD]))

/-- data that is compared: numbers, truths, None, texts and tuples of such, n deep -/
inductive SD : Nat → D → Prop
  | non (n : Nat) : SD n .non
  | bl (n : Nat) (b : Bool) : SD n (.bl b)
  | int (n : Nat) (i : Int) : SD n (.int i)
  | str (n : Nat) (x : Str) : SD n (.str x)
  | tup (n : Nat) (ds : List D) (h : ∀ d ∈ ds, SD n d) (hl : ds.length ≤ 100000) : SD (n + 1) (.tup ds)
theorem SD.kn {n : Nat} {d : D} (h : SD n d) : Kn d := by cases h <;> exact ⟨_, rfl⟩
abbrev c_same (n : Nat) : Cn := fun K w ds Ψ Ξ => ∃ d, ds = [d, d] ∧ SD n d ∧ Ψ (.fz (.bl true))
theorem l_same (n : Nat) : ∀ K w ds Ψ Ξ, c_same n K w ds Ψ Ξ → ds.length = 2 := fun K w ds Ψ Ξ h => by
  obtain ⟨_, rfl, _⟩ := h
  rfl
theorem same_step {P : Program} {w : World} {K : PySem.W.Frag} {mg : Str → Option Value} {base : Heap} {A : Ad} (T : Txt K mg A) {n k : Nat} {sp : Sp} (G : FnOk P w K mg base CX0 k A._law_same A.fd__law_same ["came", "due"] sp) (hsp : ∀ m, n = m + 1 → sp = SpD K AnyR (c_same m)) :
    FnOk P w K mg base CX0 (k + 1) A._law_same A.fd__law_same ["came", "due"] (SpD K AnyR (c_same n)) := by
  refine T.F__law_same.ok sc__law_same (fun vs H Q E h => spd_len (l_same n) h) (fun cdv A' outer s H vs Q E hr h => ⟨_,
(pss_cons (ps_if (pt_cmpR op_isN (pv 1) pe_non (nomark _)) (pss_one (ps_ret (pe_cmpR op_isN (pv 0) pe_non (nomark _)))) pss_nil)
        (pss_cons (ps_if (pt_val (pe_callB call_isi (by rfl) T.b_isinstance (by decide +kernel) (pa_cons (pv 1) (pa_cons (pe_bltn (v := .ty "tuple") (by rfl) T.b_tuple (by decide +kernel) rfl) pa_nil)))) (pss_cons (ps_if (PW.pt (pw_or (pt_not (pt_val (pe_callB call_isi (by rfl) T.b_isinstance (by decide +kernel) (pa_cons (pv 0) (pa_cons (pe_bltn (v := .ty "tuple") (by rfl) T.b_tuple (by decide +kernel) rfl) pa_nil))))) (pw_or1 (pt_cmpR op_ne (pe_callB call_len_seq (by rfl) T.b_len (by decide +kernel) (pa_cons (pv 0) pa_nil)) (pe_callB call_len_seq (by rfl) T.b_len (by decide +kernel) (pa_cons (pv 1) pa_nil)) (nomark _))))) (pss_one (ps_ret pe_bl)) pss_nil)
        (pss_cons (ps_for PassesOwn.never rfl (pi_range1 (by rfl) T.b_range (pa_cons (pe_callB call_len_seq (by rfl) T.b_len (by decide +kernel) (pa_cons (pv 1) pa_nil)) pa_nil)) (pg_name (i := 2) sc__law_same.nd rfl (.inl rfl)) (pss_one (ps_if (pt_not (pt_val (pe_call (G) hr (by rfl) T.m__law_same T.F__law_same.kp (b__law_same T) .nil pass0 (pa_cons (pe_ix ix_tup (pv 0) (pv 2) (fun _ _ => rfl)) (pa_cons (pe_ix ix_tup (pv 1) (pv 2) (fun _ _ => rfl)) pa_nil))))) (pss_one (ps_ret pe_bl)) pss_nil)))
        (pss_one (ps_ret pe_bl)))) pss_nil)
        (pss_cons (ps_if (pt_val (pe_callB call_isi (by rfl) T.b_isinstance (by decide +kernel) (pa_cons (pv 1) (pa_cons (pe_bltn (v := .ty "bool") (by rfl) T.b_bool (by decide +kernel) rfl) pa_nil)))) (pss_one (ps_ret (pe_and (pe_callB call_isi (by rfl) T.b_isinstance (by decide +kernel) (pa_cons (pv 0) (pa_cons (pe_bltn (v := .ty "bool") (by rfl) T.b_bool (by decide +kernel) rfl) pa_nil))) (pe_one (pe_cmpR op_eq (pv 0) (pv 1) (nomark _)))))) pss_nil)
        (pss_cons (ps_if (pt_val (pe_callB call_isi (by rfl) T.b_isinstance (by decide +kernel) (pa_cons (pv 1) (pa_cons (pe_bltn (v := .ty "int") (by rfl) T.b_int (by decide +kernel) rfl) pa_nil)))) (pss_one (ps_ret (pe_and (pe_callB call_isi (by rfl) T.b_isinstance (by decide +kernel) (pa_cons (pv 0) (pa_cons (pe_bltn (v := .ty "int") (by rfl) T.b_int (by decide +kernel) rfl) pa_nil))) (pe_and (pe_not (pe_callB call_isi (by rfl) T.b_isinstance (by decide +kernel) (pa_cons (pv 0) (pa_cons (pe_bltn (v := .ty "bool") (by rfl) T.b_bool (by decide +kernel) rfl) pa_nil)))) (pe_one (pe_cmpR op_eq (pv 0) (pv 1) (nomark _))))))) pss_nil)
        (pss_one (ps_ret (pe_and (pe_callB call_isi (by rfl) T.b_isinstance (by decide +kernel) (pa_cons (pv 0) (pa_cons (pe_bltn (v := .ty "str") (by rfl) T.b_str (by decide +kernel) rfl) pa_nil))) (pe_one (pe_cmpR op_eq (pv 0) (pv 1) (nomark _))))))))))
    , ?_⟩)
  refine body_ok 2 (by decide) (l_same n) h (fun Γ ds Ψ Ξ hK hX hF hc ke => ?_)
  subst hK
  obtain ⟨d, rfl, hd, hc⟩ := hc
  cases hd with
  | non n =>
    walk_at "rd"
    exact hc
  | bl n b =>
    walk_at "rd"
    refine ⟨_, _, rfl, kit_tuple (d := .bl b) rfl, _, rfl, ?_⟩
    walk_at "rd"
    refine ⟨_, _, rfl, kit_bool (d := .bl b) rfl, _, rfl, ?_⟩
    walk_at "rd"
    refine ⟨_, _, rfl, kit_bool (d := .bl b) rfl, _, rfl, ?_⟩
    walk_at "rd"
    rw [decide_eq_true rfl]
    exact hc
  | int n i =>
    walk_at "rd"
    refine ⟨_, _, rfl, kit_tuple (d := .int i) rfl, _, rfl, ?_⟩
    walk_at "rd"
    refine ⟨_, _, rfl, kit_bool (d := .int i) rfl, _, rfl, ?_⟩
    walk_at "rd"
    refine ⟨_, _, rfl, kit_int (d := .int i) rfl, _, rfl, ?_⟩
    walk_at "rd"
    refine ⟨_, _, rfl, kit_int (d := .int i) rfl, _, rfl, ?_⟩
    walk_at "rd"
    refine ⟨_, _, rfl, kit_bool (d := .int i) rfl, _, rfl, ?_⟩
    walk_at "rd"
    rw [decide_eq_true rfl]
    exact hc
  | str n x =>
    walk_at "rd"
    refine ⟨_, _, rfl, kit_tuple (d := .str x) rfl, _, rfl, ?_⟩
    walk_at "rd"
    refine ⟨_, _, rfl, kit_bool (d := .str x) rfl, _, rfl, ?_⟩
    walk_at "rd"
    refine ⟨_, _, rfl, kit_int (d := .str x) rfl, _, rfl, ?_⟩
    walk_at "rd"
    refine ⟨_, _, rfl, kit_str (d := .str x) rfl, _, rfl, ?_⟩
    walk_at "rd"
    rw [decide_eq_true rfl]
    exact hc
  | tup n ds hs hl =>
    have esp := hsp n rfl
    subst esp
    walk_at "rd"
    refine ⟨_, _, rfl, kit_tuple (d := .tup ds) rfl, _, rfl, ?_⟩
    walk_at "rd"
    refine ⟨_, _, rfl, kit_tuple (d := .tup ds) rfl, _, rfl, ?_⟩
    walk_at "rd"
    rw [decide_eq_true rfl]
    walk_at "rd"
    refine sw_forR (aw_cons (ew_cb (aw_cons (ew_var rfl (aw_nil ⟨_, cbv_lenT rfl, aw_nil ⟨_, rfl, by constructor <;> omega, fun i ρ => ∃ b, ρ = [some (.fz (.tup ds)), some (.fz (.tup ds)), b], ⟨none, rfl⟩, ?_, ?_⟩⟩)))))
    · rintro i ρ2 hi ⟨b, rfl⟩
      have hi' : i < ds.length := by omega
      obtain ⟨x, hx⟩ : ∃ x, ds[i]? = some x := ⟨ds[i], List.getElem?_eq_getElem hi'⟩
      refine ⟨_, gd_name, ?_⟩
      walk_at "rd"
      refine ⟨_, opv_ixT rfl (at_nat hx), ?_⟩
      walk_at "rd"
      refine ⟨_, opv_ixT rfl (at_nat hx), ?_⟩
      walk_at "rd"
      refine ⟨hs x (List.mem_of_getElem? hx), _, rfl, ?_⟩
      walk_at "rd"
      exact ⟨_, rfl⟩
    · rintro ρ2 ⟨b, rfl⟩
      walk_at "rd"
      exact hc
theorem ok_same {P : Program} {w : World} {K : PySem.W.Frag} {mg : Str → Option Value} {base : Heap} {A : Ad} (T : Txt K mg A) : ∀ n, FnOk P w K mg base CX0 (n + 2) A._law_same A.fd__law_same ["came", "due"] (SpD K AnyR (c_same n))
  | 0 => same_step T (k := 1) (T.F__law_same.ok sc__law_same (sp := fun _ _ _ _ => False) (fun _ _ _ _ h => h.elim) (fun _ _ _ _ _ _ _ _ _ h => h.elim)) (fun _ e => by cases e)
  | n + 1 => same_step T (ok_same T n) (fun m e => by cases e; rfl)
abbrev c__law_same : Cn := c_same 4
theorem ok__law_same {P : Program} {w : World} {K : PySem.W.Frag} {mg : Str → Option Value} {base : Heap} {A : Ad} (T : Txt K mg A) : FnOk P w K mg base CX0 6 A._law_same A.fd__law_same ["came", "due"] (SpD K AnyR c__law_same) := ok_same T 4
theorem same_stepH {P : Program} {w : World} {K : PySem.W.Frag} {mg : Str → Option Value} {base : Heap} {A : Ad} (T : Txt K mg A) {n k : Nat} {sp : Sp} (G : L2H.FnH P w K mg base CX0 k A._law_same A.fd__law_same ["came", "due"] sp) (hsp : ∀ m, n = m + 1 → sp = SpD K AnyR (c_same m)) :
    L2H.FnH P w K mg base CX0 (k + 1) A._law_same A.fd__law_same ["came", "due"] (SpD K AnyR (c_same n)) := by
  refine okH T.F__law_same sc__law_same (fun vs H Q E h => spd_len (l_same n) h) (fun cdv A' outer s H vs Q E p hc hr h => ⟨_,
(pss_cons (ps_if (pt_cmpR op_isN (pv 1) pe_non (nomark _)) (pss_one (ps_ret (pe_cmpR op_isN (pv 0) pe_non (nomark _)))) pss_nil)
        (pss_cons (ps_if (pt_val (pe_callB call_isi (by rfl) T.b_isinstance (by decide +kernel) (pa_cons (pv 1) (pa_cons (pe_bltn (v := .ty "tuple") (by rfl) T.b_tuple (by decide +kernel) rfl) pa_nil)))) (pss_cons (ps_if (PW.pt (pw_or (pt_not (pt_val (pe_callB call_isi (by rfl) T.b_isinstance (by decide +kernel) (pa_cons (pv 0) (pa_cons (pe_bltn (v := .ty "tuple") (by rfl) T.b_tuple (by decide +kernel) rfl) pa_nil))))) (pw_or1 (pt_cmpR op_ne (pe_callB call_len_seq (by rfl) T.b_len (by decide +kernel) (pa_cons (pv 0) pa_nil)) (pe_callB call_len_seq (by rfl) T.b_len (by decide +kernel) (pa_cons (pv 1) pa_nil)) (nomark _))))) (pss_one (ps_ret pe_bl)) pss_nil)
        (pss_cons (L2H.ps_forH PassesOwn.never hc (L2H.pi_range1H (by rfl) T.b_range (pa_cons (pe_callB call_len_seq (by rfl) T.b_len (by decide +kernel) (pa_cons (pv 1) pa_nil)) pa_nil)) (pg_name (i := 2) sc__law_same.nd rfl (.inl rfl)) (pss_one (ps_if (pt_not (pt_val (L2H.pe_callH (G) hr hc (by rfl) T.m__law_same T.F__law_same.kp (b__law_same T) pass0A (pa_cons (pe_ix ix_tup (pv 0) (pv 2) (fun _ _ => rfl)) (pa_cons (pe_ix ix_tup (pv 1) (pv 2) (fun _ _ => rfl)) pa_nil))))) (pss_one (ps_ret pe_bl)) pss_nil)))
        (pss_one (ps_ret pe_bl)))) pss_nil)
        (pss_cons (ps_if (pt_val (pe_callB call_isi (by rfl) T.b_isinstance (by decide +kernel) (pa_cons (pv 1) (pa_cons (pe_bltn (v := .ty "bool") (by rfl) T.b_bool (by decide +kernel) rfl) pa_nil)))) (pss_one (ps_ret (pe_and (pe_callB call_isi (by rfl) T.b_isinstance (by decide +kernel) (pa_cons (pv 0) (pa_cons (pe_bltn (v := .ty "bool") (by rfl) T.b_bool (by decide +kernel) rfl) pa_nil))) (pe_one (pe_cmpR op_eq (pv 0) (pv 1) (nomark _)))))) pss_nil)
        (pss_cons (ps_if (pt_val (pe_callB call_isi (by rfl) T.b_isinstance (by decide +kernel) (pa_cons (pv 1) (pa_cons (pe_bltn (v := .ty "int") (by rfl) T.b_int (by decide +kernel) rfl) pa_nil)))) (pss_one (ps_ret (pe_and (pe_callB call_isi (by rfl) T.b_isinstance (by decide +kernel) (pa_cons (pv 0) (pa_cons (pe_bltn (v := .ty "int") (by rfl) T.b_int (by decide +kernel) rfl) pa_nil))) (pe_and (pe_not (pe_callB call_isi (by rfl) T.b_isinstance (by decide +kernel) (pa_cons (pv 0) (pa_cons (pe_bltn (v := .ty "bool") (by rfl) T.b_bool (by decide +kernel) rfl) pa_nil)))) (pe_one (pe_cmpR op_eq (pv 0) (pv 1) (nomark _))))))) pss_nil)
        (pss_one (ps_ret (pe_and (pe_callB call_isi (by rfl) T.b_isinstance (by decide +kernel) (pa_cons (pv 0) (pa_cons (pe_bltn (v := .ty "str") (by rfl) T.b_str (by decide +kernel) rfl) pa_nil))) (pe_one (pe_cmpR op_eq (pv 0) (pv 1) (nomark _))))))))))
    , ?_⟩)
  refine body_ok 2 (by decide) (l_same n) h (fun Γ ds Ψ Ξ hK hX hF hc ke => ?_)
  subst hK
  obtain ⟨d, rfl, hd, hc⟩ := hc
  cases hd with
  | non n =>
    walk_at "rd"
    exact hc
  | bl n b =>
    walk_at "rd"
    refine ⟨_, _, rfl, kit_tuple (d := .bl b) rfl, _, rfl, ?_⟩
    walk_at "rd"
    refine ⟨_, _, rfl, kit_bool (d := .bl b) rfl, _, rfl, ?_⟩
    walk_at "rd"
    refine ⟨_, _, rfl, kit_bool (d := .bl b) rfl, _, rfl, ?_⟩
    walk_at "rd"
    rw [decide_eq_true rfl]
    exact hc
  | int n i =>
    walk_at "rd"
    refine ⟨_, _, rfl, kit_tuple (d := .int i) rfl, _, rfl, ?_⟩
    walk_at "rd"
    refine ⟨_, _, rfl, kit_bool (d := .int i) rfl, _, rfl, ?_⟩
    walk_at "rd"
    refine ⟨_, _, rfl, kit_int (d := .int i) rfl, _, rfl, ?_⟩
    walk_at "rd"
    refine ⟨_, _, rfl, kit_int (d := .int i) rfl, _, rfl, ?_⟩
    walk_at "rd"
    refine ⟨_, _, rfl, kit_bool (d := .int i) rfl, _, rfl, ?_⟩
    walk_at "rd"
    rw [decide_eq_true rfl]
    exact hc
  | str n x =>
    walk_at "rd"
    refine ⟨_, _, rfl, kit_tuple (d := .str x) rfl, _, rfl, ?_⟩
    walk_at "rd"
    refine ⟨_, _, rfl, kit_bool (d := .str x) rfl, _, rfl, ?_⟩
    walk_at "rd"
    refine ⟨_, _, rfl, kit_int (d := .str x) rfl, _, rfl, ?_⟩
    walk_at "rd"
    refine ⟨_, _, rfl, kit_str (d := .str x) rfl, _, rfl, ?_⟩
    walk_at "rd"
    rw [decide_eq_true rfl]
    exact hc
  | tup n ds hs hl =>
    have esp := hsp n rfl
    subst esp
    walk_at "rd"
    refine ⟨_, _, rfl, kit_tuple (d := .tup ds) rfl, _, rfl, ?_⟩
    walk_at "rd"
    refine ⟨_, _, rfl, kit_tuple (d := .tup ds) rfl, _, rfl, ?_⟩
    walk_at "rd"
    rw [decide_eq_true rfl]
    walk_at "rd"
    refine sw_forR (aw_cons (ew_cb (aw_cons (ew_var rfl (aw_nil ⟨_, cbv_lenT rfl, aw_nil ⟨_, rfl, by constructor <;> omega, fun i ρ => ∃ b, ρ = [some (.fz (.tup ds)), some (.fz (.tup ds)), b], ⟨none, rfl⟩, ?_, ?_⟩⟩)))))
    · rintro i ρ2 hi ⟨b, rfl⟩
      have hi' : i < ds.length := by omega
      obtain ⟨x, hx⟩ : ∃ x, ds[i]? = some x := ⟨ds[i], List.getElem?_eq_getElem hi'⟩
      refine ⟨_, gd_name, ?_⟩
      walk_at "rd"
      refine ⟨_, opv_ixT rfl (at_nat hx), ?_⟩
      walk_at "rd"
      refine ⟨_, opv_ixT rfl (at_nat hx), ?_⟩
      walk_at "rd"
      refine ⟨hs x (List.mem_of_getElem? hx), _, rfl, ?_⟩
      walk_at "rd"
      exact ⟨_, rfl⟩
    · rintro ρ2 ⟨b, rfl⟩
      walk_at "rd"
      exact hc
theorem hok_same {P : Program} {w : World} {K : PySem.W.Frag} {mg : Str → Option Value} {base : Heap} {A : Ad} (T : Txt K mg A) : ∀ n, L2H.FnH P w K mg base CX0 (n + 2) A._law_same A.fd__law_same ["came", "due"] (SpD K AnyR (c_same n))
  | 0 => same_stepH T (k := 1) (okH T.F__law_same sc__law_same (sp := fun _ _ _ _ => False) (fun _ _ _ _ h => h.elim) (fun _ _ _ _ _ _ _ _ _ _ _ h => h.elim)) (fun _ e => by cases e)
  | n + 1 => same_stepH T (hok_same T n) (fun m e => by cases e; rfl)
theorem hok__law_same {P : Program} {w : World} {K : PySem.W.Frag} {mg : Str → Option Value} {base : Heap} {A : Ad} (T : Txt K mg A) : L2H.FnH P w K mg base CX0 6 A._law_same A.fd__law_same ["came", "due"] (SpD K AnyR c__law_same) := hok_same T 4
abbrev c__law_share : Cn := fun K w ds Ψ Ξ => ∃ a b : Int, ds = [.int a, .int b] ∧ b ≠ 0 ∧ b.natAbs < 2 ^ 8999 ∧ Ψ (.fz (shD (red a b)))
theorem l__law_share : ∀ K w ds Ψ Ξ, c__law_share K w ds Ψ Ξ → ds.length = 2 := fun K w ds Ψ Ξ h => by
  obtain ⟨_, _, rfl, _⟩ := h
  rfl
theorem ok__law_share {P : Program} {w : World} {K : PySem.W.Frag} {mg : Str → Option Value} {base : Heap} {A : Ad} (T : Txt K mg A) : FnOk P w K mg base CX0 1 A._law_share A.fd__law_share ["top", "bottom"] (SpD K AnyR c__law_share) := by
  refine Fun.ok T.F__law_share sc__law_share (fun vs H Q E h => spd_len (l__law_share) h) (fun cdv A' outer s H vs Q E hr h => ⟨_, (pss_cons (ps_set (i := 2) sc__law_share.nd rfl (.inl rfl) (pe_callB call_abs (by rfl) T.b_abs (by decide +kernel) (pa_cons (pv 0) pa_nil)))
        (pss_cons (ps_set (i := 3) sc__law_share.nd rfl (.inl rfl) (pe_callB call_abs (by rfl) T.b_abs (by decide +kernel) (pa_cons (pv 1) pa_nil)))
        (pss_cons (ps_while PassesOwn.never (pt_cmpR op_gt (pv 3) pe_int (nomark _)) (pss_cons (ps_set (i := 4) sc__law_share.nd rfl (.inl rfl) (pe_op op_mod (pe_callTy call_int1 (by rfl) T.b_int (by decide +kernel) (pa_cons (pv 2) pa_nil)) (pv 3)))
        (pss_cons (ps_set (i := 2) sc__law_share.nd rfl (.inl rfl) (pv 3))
        (pss_one (ps_set (i := 3) sc__law_share.nd rfl (.inl rfl) (pv 4))))))
        (pss_cons (ps_if (pt_cmpR op_lt (pv 1) pe_int (nomark _)) (pss_one (ps_set (i := 2) sc__law_share.nd rfl (.inl rfl) (pe_op op_sub pe_int (pv 2)))) pss_nil)
        (pss_one (ps_ret (pe_tup (pa_cons (pe_op op_fdivG (pv 0) (pv 2)) (pa_cons (pe_op op_fdivG (pv 1) (pv 2)) pa_nil))))))))), ?_⟩)
  refine body_ok 2 (by decide) (l__law_share) h (fun Γ ds Ψ Ξ hK hX hF hc ke => ?_)
  subst hK
  obtain ⟨a, b, rfl, h0, hb, hc⟩ := hc
  walk_at "rs"
  refine sw_mid (fun ρ => ∃ z : Option B, ρ = [some (.fz (.int a)), some (.fz (.int b)), some (.fz (.int (gi a b))), some (.fz (.int 0)), z]) ?_ ?_
  · refine sw_while (fun m ρ => ∃ (x y : Int) (z : Option B), ρ = [some (.fz (.int a)), some (.fz (.int b)), some (.fz (.int x)), some (.fz (.int y)), z] ∧ 0 ≤ x ∧ 0 ≤ y ∧ gi x y = gi a b ∧ m = y.toNat) _ ⟨_, _, none, rfl, ?_, ?_, ?_, rfl⟩ ?_
    · rw [abs_if]; omega
    · rw [abs_if]; omega
    · rw [abs_if, abs_if, gi_abs]
    · rintro m ρ' ⟨x, y, z, rfl, hx, hy, hg, rfl⟩
      walk_at "rd"
      refine ⟨fun h1 => ?_, fun h1 => ?_⟩
      · have hy0 : 0 < y := of_decide_eq_true h1
        walk_at "rd"
        refine ⟨_, opv_intC hy0, ?_⟩
        walk_at "rd"
        refine ⟨_, ?_, y, x % y, _, rfl, hy, Int.emod_nonneg _ (by omega), by rw [gi_mod hx hy0]; exact hg, rfl⟩
        have := Int.emod_lt_of_pos x hy0
        have := Int.emod_nonneg x (show y ≠ 0 by omega)
        omega
      · have hy0 : y = 0 := by
          have := of_decide_eq_false h1
          omega
        subst hy0
        rw [gi_zero hx] at hg
        subst hg
        exact ⟨z, rfl⟩
  · rintro ρ ⟨z, rfl⟩
    refine sw_cut (fun ρ => ∃ z : Option B, ρ = [some (.fz (.int a)), some (.fz (.int b)), some (.fz (.int (if b < 0 then 0 - gi a b else gi a b))), some (.fz (.int 0)), z]) ?_ ?_
    · walk_at "rd"
      refine ⟨fun h1 => ?_, fun h1 => ?_⟩
      · rw [if_pos (of_decide_eq_true h1)]
        walk_at "rd"
        exact ⟨z, rfl⟩
      · rw [if_neg (of_decide_eq_false h1)]
        walk_at "rd"
        exact ⟨z, rfl⟩
    · rintro ρ ⟨z, rfl⟩
      have hg := gi_pos (a := a) h0
      have hl := gi_le (a := a) h0
      have hz : ∀ t, CFd t (if b < 0 then 0 - gi a b else gi a b) := fun t => cfd_of (n := 8999) (by split <;> omega) (by split <;> omega) (Nat.le_refl _)
      walk_at "rd"
      refine ⟨_, opv_intC (hz _), ?_⟩
      walk_at "rd"
      refine ⟨_, opv_intC (hz _), ?_⟩
      walk_at "rd"
      have e2 : shD (a.fdiv (if b < 0 then 0 - gi a b else gi a b), b.fdiv (if b < 0 then 0 - gi a b else gi a b)) = shD (red a b) := by rw [law_red h0]
      rw [← e2] at hc
      exact hc
abbrev c__law_drawn : Cn := fun K w ds Ψ Ξ => ds = [.ptr w] ∧ ∀ p, IsSh p → Sm 14 p → Ψ (.fz (shD p))
theorem l__law_drawn : ∀ K w ds Ψ Ξ, c__law_drawn K w ds Ψ Ξ → ds.length = 1 := fun K w ds Ψ Ξ h => by
  obtain ⟨rfl, _⟩ := h
  rfl
theorem ok__law_drawn {P : Program} {w : World} {K : PySem.W.Frag} {mg : Str → Option Value} {base : Heap} {A : Ad} (T : Txt K mg A) : FnOk P w K mg base CX0 2 A._law_drawn A.fd__law_drawn ["well"] (SpD K IsWell c__law_drawn) := by
  refine Fun.ok T.F__law_drawn sc__law_drawn (fun vs H Q E h => spd_len (l__law_drawn) h) (fun cdv A' outer s H vs Q E hr h => ⟨_, (pss_cons (ps_set (i := 1) sc__law_drawn.nd rfl (.inl rfl) (pe_call (ok__law_draw T) (hr.mono (by decide)) (by rfl) T.m__law_draw T.F__law_draw.kp (b__law_draw T) .nil pass0 (pa_cons (pv 0) (pa_cons pe_int pa_nil))))
        (pss_cons (ps_if (pt_cmpR op_eq (pv 1) pe_int (nomark _)) (pss_one (ps_ret (pe_call (ok__law_share T) (hr.mono (by decide)) (by rfl) T.m__law_share T.F__law_share.kp (b__law_share T) .nil pass0 (pa_cons (pe_op op_sub (pe_call (ok__law_draw T) (hr.mono (by decide)) (by rfl) T.m__law_draw T.F__law_draw.kp (b__law_draw T) .nil pass0 (pa_cons (pv 0) (pa_cons pe_int pa_nil))) pe_int) (pa_cons (pe_op op_add pe_int (pe_call (ok__law_draw T) (hr.mono (by decide)) (by rfl) T.m__law_draw T.F__law_draw.kp (b__law_draw T) .nil pass0 (pa_cons (pv 0) (pa_cons pe_int pa_nil)))) pa_nil))))) pss_nil)
        (pss_cons (ps_if (pt_cmpR op_lt (pv 1) pe_int (nomark _)) (pss_one (ps_ret (pe_tup (pa_cons (pe_op op_sub (pe_call (ok__law_draw T) (hr.mono (by decide)) (by rfl) T.m__law_draw T.F__law_draw.kp (b__law_draw T) .nil pass0 (pa_cons (pv 0) (pa_cons pe_int pa_nil))) pe_int) (pa_cons pe_int pa_nil))))) pss_nil)
        (pss_one (ps_ret (pe_call (ok__law_share T) (hr.mono (by decide)) (by rfl) T.m__law_share T.F__law_share.kp (b__law_share T) .nil pass0 (pa_cons (pe_op op_sub (pe_call (ok__law_draw T) (hr.mono (by decide)) (by rfl) T.m__law_draw T.F__law_draw.kp (b__law_draw T) .nil pass0 (pa_cons (pv 0) (pa_cons pe_int pa_nil))) pe_int) (pa_cons (pe_op op_add pe_int (pe_call (ok__law_draw T) (hr.mono (by decide)) (by rfl) T.m__law_draw T.F__law_draw.kp (b__law_draw T) .nil pass0 (pa_cons (pv 0) (pa_cons pe_int pa_nil)))) pa_nil)))))))), ?_⟩)
  refine body_ok 1 (by decide) (l__law_drawn) h (fun Γ ds Ψ Ξ hK hX hF hc ke => ?_)
  subst hK
  obtain ⟨rfl, hc⟩ := hc
  have dr : ∀ {d : Int} {m : Nat} {b e : Int}, 0 ≤ d → d < b → b ≤ 19999 → (d - e).natAbs < 2 ^ 14 → (d - e).natAbs < 2 ^ 14 := fun _ _ _ h => h
  have sh : ∀ x y : Int, -9999 ≤ x → x ≤ 9999 → 1 ≤ y → y ≤ 9999 → Ψ (.fz (shD (red x y))) := fun x y h1 h2 h3 h4 => hc _ (red_sh (by omega)) (red_sm (by omega) (by omega) (by omega))
  walk_at "rs"
  refine ⟨by decide, by decide, fun way w0 w1 => ?_⟩
  walk_at "rd"
  refine ⟨fun h1 => ?_, fun h1 => ?_⟩
  · walk_at "rd"
    refine ⟨by decide, by decide, fun x x0 x1 => ?_⟩
    walk_at "rd"
    refine ⟨by decide, by decide, fun y y0 y1 => ?_⟩
    walk_at "rd"
    exact ⟨by omega, by omega, sh _ _ (by omega) (by omega) (by omega) (by omega)⟩
  · walk_at "rd"
    refine ⟨fun h2 => ?_, fun h2 => ?_⟩
    · walk_at "rd"
      refine ⟨by decide, by decide, fun x x0 x1 => ?_⟩
      walk_at "rd"
      exact hc (x - 20, 1) ⟨(by show (0 : Int) < 1; decide), by show gi (x - 20) 1 = 1; unfold gi; simp⟩ ⟨by show (x - 20).natAbs < 2 ^ 14; omega, by show (1 : Int).natAbs < 2 ^ 14; decide⟩
    · walk_at "rd"
      refine ⟨by decide, by decide, fun x x0 x1 => ?_⟩
      walk_at "rd"
      refine ⟨by decide, by decide, fun y y0 y1 => ?_⟩
      walk_at "rd"
      exact ⟨by omega, by omega, sh _ _ (by omega) (by omega) (by omega) (by omega)⟩
abbrev c__law_handed : Cn := fun K w ds Ψ Ξ => ∃ p, ds = [.ptr w, shD p] ∧ ∀ d, AsSh d p → Ψ (.fz d)
theorem l__law_handed : ∀ K w ds Ψ Ξ, c__law_handed K w ds Ψ Ξ → ds.length = 2 := fun K w ds Ψ Ξ h => by
  obtain ⟨_, rfl, _⟩ := h
  rfl
theorem ok__law_handed {P : Program} {w : World} {K : PySem.W.Frag} {mg : Str → Option Value} {base : Heap} {A : Ad} (T : Txt K mg A) : FnOk P w K mg base CX0 2 A._law_handed A.fd__law_handed ["well", "share"] (SpD K IsWell c__law_handed) := by
  refine Fun.ok T.F__law_handed sc__law_handed (fun vs H Q E h => spd_len (l__law_handed) h) (fun cdv A' outer s H vs Q E hr h => ⟨_, (pss_cons (ps_if (PW.pt (pw_and (pt_cmpR op_eq (pe_ix ix_tup (pv 1) pe_int (fun _ _ => rfl)) pe_int (nomark _)) (pw_and1 (pt_cmpR op_eq (pe_call (ok__law_draw T) (hr.mono (by decide)) (by rfl) T.m__law_draw T.F__law_draw.kp (b__law_draw T) .nil pass0 (pa_cons (pv 0) (pa_cons pe_int pa_nil))) pe_int (nomark _))))) (pss_one (ps_ret (pe_ix ix_tup (pv 1) pe_int (fun _ _ => rfl)))) pss_nil)
        (pss_one (ps_ret (pv 1)))), ?_⟩)
  refine body_ok 2 (by decide) (l__law_handed) h (fun Γ ds Ψ Ξ hK hX hF hc ke => ?_)
  subst hK
  obtain ⟨p, rfl, hc⟩ := hc
  walk_at "rd"
  refine ⟨fun h1 => ?_, fun h1 => ?_⟩
  · walk_at "rd"
    refine ⟨by decide, by decide, fun x x0 x1 => ?_⟩
    walk_at "rd"
    refine ⟨fun h2 => ?_, fun h2 => ?_⟩
    · walk_at "rd"
      obtain ⟨a, b⟩ := p
      have e : b = 1 := of_decide_eq_true h1
      subst e
      exact hc _ (.int a)
    · walk_at "rd"
      exact hc _ (.sh p)
  · walk_at "rd"
    exact hc _ (.sh p)
end Pf

namespace Pf
open PySem L2 Dl Sh
open Evl (Ex)
local macro_rules | `(tactic| walk_at "r0") => `(tactic| with_reducible first
  | refine sw_seq ?_
  | refine ew_var rfl ?_
  | refine ew_int ?_
  | refine ew_bl ?_
  | refine ew_non ?_
  | refine ew_str ?_
  | refine aw_cons ?_
  | refine aw_nil ?_
  | refine sw_par ?_
  | refine sw_next ?_
  | refine sw_if ?_
  | refine sw_ret ?_
  | refine tw_not ?_
  | refine tw_and ?_
  | refine tw_or ?_
  | refine tw_test ?_
  | refine tw_B ?_
  | refine tw_tru rfl ?_
  | refine ew_andV ?_
  | refine ew_orV ?_
  | refine ew_notV ?_
  | refine ew_if ?_
  | refine ew_chain ?_
  | refine ew_isN ?_
  | refine ew_tup ?_
  | refine ew_lst ?_
  | refine ew_isi rfl ?_
  | refine ew_isi2 rfl ?_
  | refine ew_cb ?_
  | refine ew_neg ?_
  | refine ew_op ?_
  | refine ⟨_, opv_int, ?_⟩
  | refine ⟨_, opv_cmp, ?_⟩
  | refine ⟨_, opv_eq, ?_⟩
  | refine ⟨_, opv_ne, ?_⟩
  | refine ⟨_, opv_eqB, ?_⟩
  | refine ⟨_, opv_eqS, ?_⟩
  | refine ⟨_, cbv_abs, ?_⟩
  | refine ⟨_, cbv_int, ?_⟩
  | refine ⟨_, rfl, ?_⟩
  | refine ⟨_, _, rfl, ?_⟩
  | refine br_t ?_
  | refine br_f ?_
  | refine sw_asg ?_)
local macro_rules | `(tactic| walk_at "r1") => `(tactic| first
  | walk_at "r0"
  | ((with_reducible refine ew_callP ?hK trivial ?_); (case hK => rfl))
  | ((with_reducible refine ew_callH ?hK trivial ?_); (case hK => rfl))
  | ((with_reducible refine ew_callR ?hK ?hF ?_); (case hK => rfl); (case hF => assumption))
  | ((with_reducible refine len_ok ?hK ?_); (case hK => rfl))
  | ((with_reducible refine sw_unp2 ?hK ?hn ?_); (case hK => rfl); (case hn => rfl)))
local macro_rules | `(tactic| walk_at "side") => `(tactic| first
  | exact Or.inr (by decide)
  | exact Or.inl (by decide)
  | exact ⟨by decide, by decide⟩
  | exact ⟨by decide, by decide, by decide⟩
  | decide
  | (dsimp only; decide)
  | exact mw (by assumption) (by assumption))
local macro_rules | `(tactic| walk_at "r2") => `(tactic| first
  | walk_at "r1"
  | ((with_reducible refine ⟨_, opv_intC ?hC, ?_⟩); (case hC => walk_at "side"))
  | ((with_reducible refine ⟨_, cbv_lenL ?hK, ?_⟩); (case hK => rfl))
  | ((with_reducible refine ⟨_, cbv_lenT ?hK, ?_⟩); (case hK => rfl))
  | (with_reducible refine ⟨_, opv_ixT (by with_unfolding_all rfl) (by with_unfolding_all rfl), ?_⟩)
  | refine br_t ?_
  | refine br_f ?_)
local macro_rules | `(tactic| walk_at "rd") => `(tactic| repeat (walk_at "r2"))
local macro_rules | `(tactic| walk_at "rs") => `(tactic| repeat ((fail_if_success (with_reducible refine sw_isif ?_)); walk_at "r2"))
local macro_rules | `(tactic| walk_at "nf") => `(tactic| (try simp only [List.set_cons_zero, List.set_cons_succ, Dl.sets, Dl.asD]))

theorem sd_sh {n : Nat} {p : Int × Int} : SD (n + 1) (shD p) := .tup _ _ (fun d h => by
  rcases List.mem_cons.mp h with rfl | h
  · exact .int _ _
  · rw [List.mem_singleton.mp h]
    exact .int _ _) (Nat.le_of_ble_eq_true rfl)
theorem sd_two {n : Nat} {x y : D} (hx : SD n x) (hy : SD n y) : SD (n + 1) (.tup [x, y]) := .tup _ _ (fun d h => by
  rcases List.mem_cons.mp h with rfl | h
  · exact hx
  · rw [List.mem_singleton.mp h]
    exact hy) (Nat.le_of_ble_eq_true rfl)
theorem na_lt {b : Int} {m : Nat} (h : b.natAbs < m) (hm : m ≤ 2 ^ 8999) : b.natAbs < 2 ^ 8999 := Nat.lt_of_lt_of_le h hm
theorem big_le {n : Nat} (h : n ≤ 8999) : 2 ^ n ≤ 2 ^ 8999 := Nat.pow_le_pow_right (by decide) h
theorem kb_share_of {K : PySem.W.Frag} {mg : Str → Option Value} {A : Ad} (T : Txt K mg A) : KBinds K A.fd_share_of ["a", "b"] ["b", "a"] kw2 kw2 := kbinds2 T.F_share_of (fun _ _ _ _ _ _ _ _ => rfl)
abbrev c__law_made_right : Cn := fun K w ds Ψ Ξ => ds = [.ptr w] ∧ Ψ (.fz (.bl true))
theorem l__law_made_right : ∀ K w ds Ψ Ξ, c__law_made_right K w ds Ψ Ξ → ds.length = 1 := fun K w ds Ψ Ξ h => by
  obtain ⟨rfl, _⟩ := h
  rfl
theorem ok__law_made_right {P : Program} {w : World} {K : PySem.W.Frag} {mg : Str → Option Value} {base : Heap} {A : Ad} (T : Txt K mg A) : FnOk P w K mg base CX0 7 A._law_made_right A.fd__law_made_right ["well"] (SpD K IsWell c__law_made_right) := by
  refine Fun.ok T.F__law_made_right sc__law_made_right (fun vs H Q E h => spd_len (l__law_made_right) h) (fun cdv A' outer s H vs Q E hr h => ⟨_, (pss_cons (ps_set (i := 1) sc__law_made_right.nd rfl (.inl rfl) (pe_op op_sub (pe_call (ok__law_draw T) (hr.mono (by decide)) (by rfl) T.m__law_draw T.F__law_draw.kp (b__law_draw T) .nil pass0 (pa_cons (pv 0) (pa_cons pe_int pa_nil))) pe_int))
        (pss_cons (ps_if (pt_cmpR op_eq (pe_call (ok__law_draw T) (hr.mono (by decide)) (by rfl) T.m__law_draw T.F__law_draw.kp (b__law_draw T) .nil pass0 (pa_cons (pv 0) (pa_cons pe_int pa_nil))) pe_int (nomark _)) (pss_one (ps_set (i := 1) sc__law_made_right.nd rfl (.inl rfl) (pe_op op_sub (pe_call (ok__law_draw T) (hr.mono (by decide)) (by rfl) T.m__law_draw T.F__law_draw.kp (b__law_draw T) .nil pass0 (pa_cons (pv 0) (pa_cons pe_int pa_nil))) pe_int))) pss_nil)
        (pss_cons (ps_set (i := 2) sc__law_made_right.nd rfl (.inl rfl) (pe_op op_sub (pe_call (ok__law_draw T) (hr.mono (by decide)) (by rfl) T.m__law_draw T.F__law_draw.kp (b__law_draw T) .nil pass0 (pa_cons (pv 0) (pa_cons pe_int pa_nil))) pe_int))
        (pss_cons (ps_if (pt_cmpR op_eq (pe_call (ok__law_draw T) (hr.mono (by decide)) (by rfl) T.m__law_draw T.F__law_draw.kp (b__law_draw T) .nil pass0 (pa_cons (pv 0) (pa_cons pe_int pa_nil))) pe_int (nomark _)) (pss_one (ps_set (i := 2) sc__law_made_right.nd rfl (.inl rfl) (pe_op op_sub (pe_call (ok__law_draw T) (hr.mono (by decide)) (by rfl) T.m__law_draw T.F__law_draw.kp (b__law_draw T) .nil pass0 (pa_cons (pv 0) (pa_cons pe_int pa_nil))) pe_int))) pss_nil)
        (pss_cons (ps_if (pt_cmpR op_ne (pv 2) pe_int (nomark _)) (pss_one (ps_ret (pe_and (pe_call (ok__law_same T) (hr.mono (by decide)) (by rfl) T.m__law_same T.F__law_same.kp (b__law_same T) .nil pass0 (pa_cons (pe_call (ok_share_of T) (hr.mono (by decide)) (by rfl) T.m_share_of T.F_share_of.kp (b_share_of T) .nil passLN (pa_cons (pv 1) (pa_cons (pv 2) pa_nil))) (pa_cons (pe_call (ok__law_share T) (hr.mono (by decide)) (by rfl) T.m__law_share T.F__law_share.kp (b__law_share T) .nil pass0 (pa_cons (pv 1) (pa_cons (pv 2) pa_nil))) pa_nil))) (pe_one (pe_call (ok__law_same T) (hr.mono (by decide)) (by rfl) T.m__law_same T.F__law_same.kp (b__law_same T) .nil pass0 (pa_cons (pe_callK0 (ok_share_of T) (hr.mono (by decide)) (by rfl) T.m_share_of T.F_share_of.kp (kb_share_of T) passLN (pk_cons (pv 2) (pk_cons pe_int pk_nil))) (pa_cons (pe_tup (pa_cons pe_int (pa_cons pe_int pa_nil))) pa_nil))))))) pss_nil)
        (pss_cons (ps_set (i := 3) sc__law_made_right.nd rfl (.inl rfl) pe_non)
        (pss_cons (L2N.ps_try_as (i := 4) (tb := _) (ts := _) (Wout := fun _ _ _ _ => False) rfl rfl sc__law_made_right.nd rfl rfl ⟨rfl, by decide, .inl T.m_InvalidNumber⟩ takes0N (fun W pn xe tk _ => (pss_one (ps_expr (by exact (pe_callS (ok_share_of T) (hr.mono (by decide)) (by rfl) T.m_share_of T.F_share_of.kp (b_share_of T) (fun σ => L2N.passAt tk σ) (pa_cons (pv 1) (pa_cons (pv 2) pa_nil))))))) (fun a oe cls d pn hz hf => (pss_one (ps_set (i := 3) sc__law_made_right.nd rfl (.inl rfl) (pe_xf T.xf_InvalidNumber T.no_InvalidNumber_value hz.zc hf (pv 4))))))
        (pss_one (ps_ret (pe_call (ok__law_same T) (hr.mono (by decide)) (by rfl) T.m__law_same T.F__law_same.kp (b__law_same T) .nil pass0 (pa_cons (pv 3) (pa_cons pe_int pa_nil)))))))))))), ?_⟩)
  refine body_ok 1 (by decide) (l__law_made_right) h (fun Γ ds Ψ Ξ hK hX hF hc ke => ?_)
  subst hK
  obtain ⟨rfl, hc⟩ := hc
  walk_at "rs"
  refine ⟨by decide, by decide, fun t0 t1 t2 => ?_⟩
  walk_at "rs"
  refine sw_cut (fun ρ => ∃ t : Int, ρ = [some (.fz (.ptr Γ.R.w)), some (.fz (.int t)), none, none, none]) ?_ ?_
  · walk_at "rd"
    refine ⟨by decide, by decide, fun d0 d1 d2 => ?_⟩
    walk_at "rd"
    refine ⟨fun h1 => ?_, fun h1 => ?_⟩
    · walk_at "rd"
      refine ⟨by decide, by decide, fun d0 d1 d2 => ?_⟩
      walk_at "rd"
      exact ⟨_, rfl⟩
    · walk_at "rd"
      exact ⟨_, rfl⟩
  · rintro ρ ⟨t, rfl⟩
    walk_at "rs"
    refine ⟨by decide, by decide, fun b0 b1 b2 => ?_⟩
    walk_at "rs"
    refine sw_cut (fun ρ => ∃ b : Int, ρ = [some (.fz (.ptr Γ.R.w)), some (.fz (.int t)), some (.fz (.int b)), none, none] ∧ b.natAbs < 2 ^ 20) ?_ ?_
    · walk_at "rd"
      refine ⟨by decide, by decide, fun d0 d1 d2 => ?_⟩
      walk_at "rd"
      refine ⟨fun h1 => ?_, fun h1 => ?_⟩
      · walk_at "rd"
        refine ⟨by decide, by decide, fun d0 d1 d2 => ?_⟩
        walk_at "rd"
        omega
      · walk_at "rd"
        omega
    · rintro ρ ⟨b, rfl, hb⟩
      have hB : b.natAbs < 2 ^ 8999 := na_lt hb (big_le (by decide))
      refine sw_cut (fun ρ => b = 0 ∧ ρ = [some (.fz (.ptr Γ.R.w)), some (.fz (.int t)), some (.fz (.int b)), none, none]) ?_ ?_
      · walk_at "rd"
        refine ⟨fun h1 => ?_, fun h1 => ?_⟩
        · have h2 : b ≠ 0 := by simpa using h1
          walk_at "rd"
          refine ⟨hB, fun _ => ?_, fun z => absurd z h2⟩
          walk_at "rd"
          refine ⟨h2, hB, ?_⟩
          walk_at "rd"
          refine ⟨sd_sh, _, rfl, br_t ?_⟩
          walk_at "rd"
          refine ew_of_eb (eb_callKP rfl trivial rep_kw2 ?_)
          walk_at "rd"
          refine ⟨hB, fun _ => ?_, fun z => absurd z h2⟩
          walk_at "rd"
          rw [red_zero h2]
          exact ⟨_, rfl, sd_sh, hc⟩
        · walk_at "rd"
          have h2 : b = 0 := by simpa using h1
          exact ⟨h2, rfl⟩
      · rintro ρ ⟨rfl, rfl⟩
        walk_at "rd"
        refine sw_try (fun ρ C f d => ρ = [some (.fz (.ptr Γ.R.w)), some (.fz (.int t)), some (.fz (.int 0)), some (.fz .non), none] ∧ C = A.c_InvalidNumber ∧ f = "value" ∧ d = .int 0) rfl (tryB_drop rfl trivial ?_) ?_
        · walk_at "rd"
          exact ⟨Nat.pow_pos (by decide), fun z => absurd rfl z, fun _ => ⟨rfl, rfl, rfl, rfl⟩⟩
        · rintro ρ1 C f d ⟨rfl, rfl, rfl, rfl⟩
          refine ⟨T.te_InvalidNumber, fun a dd => ?_⟩
          walk_at "rd"
          refine ew_xf ?_
          walk_at "rd"
          exact ⟨.int _ _, hc⟩
/-- what a share is, as the laws hold it -/
structure ShP (n : Nat) (p : Int × Int) : Prop where
  is : IsSh p
  sm : Sm n p
theorem ShP.in_ {n : Nat} {p : Int × Int} (h : ShP n p) {d : D} (a : AsSh d p) (hn : n ≤ 4400) : ShIn d p := ⟨a, h.is.pos, ⟨sm_mono h.sm.1 hn, sm_mono h.sm.2 hn⟩⟩
abbrev c__law_over_right : Cn := fun K w ds Ψ Ξ => ∃ p q, ds = [.ptr w, shD p, shD q] ∧ ShP 60 p ∧ ShP 60 q ∧ Ψ (.fz (.bl true))
theorem l__law_over_right : ∀ K w ds Ψ Ξ, c__law_over_right K w ds Ψ Ξ → ds.length = 3 := fun K w ds Ψ Ξ h => by
  obtain ⟨_, _, rfl, _⟩ := h
  rfl
theorem ok__law_over_right {P : Program} {w : World} {K : PySem.W.Frag} {mg : Str → Option Value} {base : Heap} {A : Ad} (T : Txt K mg A) : FnOk P w K mg base CX0 7 A._law_over_right A.fd__law_over_right ["well", "one", "other"] (SpD K IsWell c__law_over_right) := by
  refine Fun.ok T.F__law_over_right sc__law_over_right (fun vs H Q E h => spd_len (l__law_over_right) h) (fun cdv A' outer s H vs Q E hr h => ⟨_, (pss_cons (ps_set (i := 3) sc__law_over_right.nd rfl (.inl rfl) pe_non)
        (pss_cons (L2N.ps_try_as (i := 4) (tb := _) (ts := _) (Wout := fun _ _ _ _ => False) rfl rfl sc__law_over_right.nd rfl rfl ⟨rfl, by decide, .inl T.m_Undefined⟩ takes0N (fun W pn xe tk _ => (pss_one (ps_set (i := 3) sc__law_over_right.nd rfl (.inl rfl) (by exact (pe_callS (ok_over T) (hr.mono (by decide)) (by rfl) T.m_over T.F_over.kp (b_over T) (fun σ => L2N.passAt tk σ) (pa_cons (pe_call (ok__law_handed T) (hr.mono (by decide)) (by rfl) T.m__law_handed T.F__law_handed.kp (b__law_handed T) .nil pass0 (pa_cons (pv 0) (pa_cons (pv 1) pa_nil))) (pa_cons (pe_call (ok__law_handed T) (hr.mono (by decide)) (by rfl) T.m__law_handed T.F__law_handed.kp (b__law_handed T) .nil pass0 (pa_cons (pv 0) (pa_cons (pv 2) pa_nil))) pa_nil))))))) (fun a oe cls d pn hz hf => (pss_one (ps_ret (pe_and (pe_cmpR op_eq (pe_ix (show IxR _ (rIxT K) from ix_tup) (pv 2) pe_int (fun _ _ => rfl)) pe_int (nomark _)) (pe_one (L2H.pe_callH (hok__law_same T) (L2H.roomH_mark (Room.mono (j := 6) hr (by decide)) _) (hot_suite hz hf) (by rfl) T.m__law_same T.F__law_same.kp (b__law_same T) pass0A (pa_cons (pe_xf T.xf_Undefined T.no_Undefined_what hz.zc hf (pv 4)) (pa_cons pe_str pa_nil)))))))))
        (pss_one (ps_ret (pe_and (pe_cmpR op_ne (pe_ix ix_tup (pv 2) pe_int (fun _ _ => rfl)) pe_int (nomark _)) (pe_one (pe_call (ok__law_same T) (hr.mono (by decide)) (by rfl) T.m__law_same T.F__law_same.kp (b__law_same T) .nil pass0 (pa_cons (pv 3) (pa_cons (pe_call (ok__law_share T) (hr.mono (by decide)) (by rfl) T.m__law_share T.F__law_share.kp (b__law_share T) .nil pass0 (pa_cons (pe_op op_mulW (pe_ix ix_tup (pv 1) pe_int (fun _ _ => rfl)) (pe_ix ix_tup (pv 2) pe_int (fun _ _ => rfl))) (pa_cons (pe_op op_mulW (pe_ix ix_tup (pv 1) pe_int (fun _ _ => rfl)) (pe_ix ix_tup (pv 2) pe_int (fun _ _ => rfl))) pa_nil))) pa_nil))))))))), ?_⟩)
  refine body_ok 3 (by decide) (l__law_over_right) h (fun Γ ds Ψ Ξ hK hX hF hc ke => ?_)
  subst hK
  obtain ⟨p, q, rfl, hp, hq, hc⟩ := hc
  walk_at "rs"
  refine sw_try (fun ρ C f d => ρ = [some (.fz (.ptr Γ.R.w)), some (.fz (shD p)), some (.fz (shD q)), some (.fz .non), none] ∧ C = A.c_Undefined ∧ f = "what" ∧ d = .str "nought" ∧ q.1 = 0) rfl (tryB_asg rfl trivial ?_) ?_
  · walk_at "rd"
    refine fun x hx => ?_
    walk_at "rd"
    refine fun y hy => ?_
    walk_at "rd"
    refine ⟨_, _, p, q, rfl, hp.in_ hx (by decide), hq.in_ hy (by decide), fun h1 => ?_, fun h1 => ⟨rfl, rfl, rfl, rfl, h1⟩⟩
    walk_at "rd"
    rw [decide_eq_false h1]
    refine br_t ?_
    walk_at "rd"
    have bp : Bd p := (hp.in_ (.sh p) (by decide)).bd
    have bq : Bd q := (hq.in_ (.sh q) (by decide)).bd
    refine ⟨_, opv_intC (mw bp.1 bq.2), ?_⟩
    walk_at "rd"
    refine ⟨_, opv_intC (mw bp.2 bq.1), ?_⟩
    walk_at "rd"
    refine ⟨mul_nz (by have := hp.is.pos; omega) h1, mwb bp.2 bq.1, ?_⟩
    walk_at "rd"
    exact ⟨sd_sh, hc⟩
  · rintro ρ1 C f d ⟨rfl, rfl, rfl, rfl, h0⟩
    refine ⟨T.te_Undefined, fun a dd => ?_⟩
    walk_at "rd"
    refine ⟨fun _ => ?_, fun z => absurd h0 (of_decide_eq_false z)⟩
    walk_at "rd"
    refine ew_xf ?_
    walk_at "rd"
    exact ⟨.str _ _, hc⟩
theorem kb_less {K : PySem.W.Frag} {mg : Str → Option Value} {A : Ad} (T : Txt K mg A) : KBinds K A.fd_less ["one", "other"] ["other", "one"] kw2 kw2 := kbinds2 T.F_less (fun _ _ _ _ _ _ _ _ => rfl)
abbrev c__law_pair_right : Cn := fun K w ds Ψ Ξ => ∃ p q, ds = [.ptr w, shD p, shD q] ∧ ShP 60 p ∧ ShP 60 q ∧ Ψ (.fz (.bl true))
theorem l__law_pair_right : ∀ K w ds Ψ Ξ, c__law_pair_right K w ds Ψ Ξ → ds.length = 3 := fun K w ds Ψ Ξ h => by
  obtain ⟨_, _, rfl, _⟩ := h
  rfl
theorem ok__law_pair_right {P : Program} {w : World} {K : PySem.W.Frag} {mg : Str → Option Value} {base : Heap} {A : Ad} (T : Txt K mg A) : FnOk P w K mg base CX0 7 A._law_pair_right A.fd__law_pair_right ["well", "one", "other"] (SpD K IsWell c__law_pair_right) := by
  refine Fun.ok T.F__law_pair_right sc__law_pair_right (fun vs H Q E h => spd_len (l__law_pair_right) h) (fun cdv A' outer s H vs Q E hr h => ⟨_, (pss_cons (ps_asg (pv 1) (pg_tup (by rfl) (pgs_cons (pg_name (i := 3) sc__law_pair_right.nd rfl (.inl rfl)) (pgs_cons (pg_name (i := 4) sc__law_pair_right.nd rfl (.inl rfl)) pgs_nil))))
        (pss_cons (ps_asg (pv 2) (pg_tup (by rfl) (pgs_cons (pg_name (i := 5) sc__law_pair_right.nd rfl (.inl rfl)) (pgs_cons (pg_name (i := 6) sc__law_pair_right.nd rfl (.inl rfl)) pgs_nil))))
        (pss_cons (ps_set (i := 7) sc__law_pair_right.nd rfl (.inl rfl) (pe_tup (pa_cons (pe_call (ok_plus T) (hr.mono (by decide)) (by rfl) T.m_plus T.F_plus.kp (b_plus T) .nil pass0 (pa_cons (pe_call (ok__law_handed T) (hr.mono (by decide)) (by rfl) T.m__law_handed T.F__law_handed.kp (b__law_handed T) .nil pass0 (pa_cons (pv 0) (pa_cons (pv 1) pa_nil))) (pa_cons (pe_call (ok__law_handed T) (hr.mono (by decide)) (by rfl) T.m__law_handed T.F__law_handed.kp (b__law_handed T) .nil pass0 (pa_cons (pv 0) (pa_cons (pv 2) pa_nil))) pa_nil))) (pa_cons (pe_call (ok_less T) (hr.mono (by decide)) (by rfl) T.m_less T.F_less.kp (b_less T) .nil pass0 (pa_cons (pe_call (ok__law_handed T) (hr.mono (by decide)) (by rfl) T.m__law_handed T.F__law_handed.kp (b__law_handed T) .nil pass0 (pa_cons (pv 0) (pa_cons (pv 1) pa_nil))) (pa_cons (pe_call (ok__law_handed T) (hr.mono (by decide)) (by rfl) T.m__law_handed T.F__law_handed.kp (b__law_handed T) .nil pass0 (pa_cons (pv 0) (pa_cons (pv 2) pa_nil))) pa_nil))) pa_nil))))
        (pss_cons (ps_if (pt_not (pt_val (pe_call (ok__law_same T) (hr.mono (by decide)) (by rfl) T.m__law_same T.F__law_same.kp (b__law_same T) .nil pass0 (pa_cons (pv 7) (pa_cons (pe_tup (pa_cons (pe_call (ok__law_share T) (hr.mono (by decide)) (by rfl) T.m__law_share T.F__law_share.kp (b__law_share T) .nil pass0 (pa_cons (pe_op op_add (pe_op op_mulW (pv 3) (pv 6)) (pe_op op_mulW (pv 5) (pv 4))) (pa_cons (pe_op op_mulW (pv 4) (pv 6)) pa_nil))) (pa_cons (pe_call (ok__law_share T) (hr.mono (by decide)) (by rfl) T.m__law_share T.F__law_share.kp (b__law_share T) .nil pass0 (pa_cons (pe_op op_sub (pe_op op_mulW (pv 3) (pv 6)) (pe_op op_mulW (pv 5) (pv 4))) (pa_cons (pe_op op_mulW (pv 4) (pv 6)) pa_nil))) pa_nil))) pa_nil))))) (pss_one (ps_ret pe_bl)) pss_nil)
        (pss_cons (ps_set (i := 7) sc__law_pair_right.nd rfl (.inl rfl) (pe_tup (pa_cons (pe_call (ok_times T) (hr.mono (by decide)) (by rfl) T.m_times T.F_times.kp (b_times T) .nil pass0 (pa_cons (pe_call (ok__law_handed T) (hr.mono (by decide)) (by rfl) T.m__law_handed T.F__law_handed.kp (b__law_handed T) .nil pass0 (pa_cons (pv 0) (pa_cons (pv 1) pa_nil))) (pa_cons (pe_call (ok__law_handed T) (hr.mono (by decide)) (by rfl) T.m__law_handed T.F__law_handed.kp (b__law_handed T) .nil pass0 (pa_cons (pv 0) (pa_cons (pv 2) pa_nil))) pa_nil))) (pa_cons (pe_call (ok_is_below T) (hr.mono (by decide)) (by rfl) T.m_is_below T.F_is_below.kp (b_is_below T) .nil pass0 (pa_cons (pe_call (ok__law_handed T) (hr.mono (by decide)) (by rfl) T.m__law_handed T.F__law_handed.kp (b__law_handed T) .nil pass0 (pa_cons (pv 0) (pa_cons (pv 1) pa_nil))) (pa_cons (pe_call (ok__law_handed T) (hr.mono (by decide)) (by rfl) T.m__law_handed T.F__law_handed.kp (b__law_handed T) .nil pass0 (pa_cons (pv 0) (pa_cons (pv 2) pa_nil))) pa_nil))) pa_nil))))
        (pss_cons (ps_if (pt_not (pt_val (pe_call (ok__law_same T) (hr.mono (by decide)) (by rfl) T.m__law_same T.F__law_same.kp (b__law_same T) .nil pass0 (pa_cons (pv 7) (pa_cons (pe_tup (pa_cons (pe_call (ok__law_share T) (hr.mono (by decide)) (by rfl) T.m__law_share T.F__law_share.kp (b__law_share T) .nil pass0 (pa_cons (pe_op op_mulW (pv 3) (pv 5)) (pa_cons (pe_op op_mulW (pv 4) (pv 6)) pa_nil))) (pa_cons (pe_cmpR op_lt (pe_op op_mulW (pv 3) (pv 6)) (pe_op op_mulW (pv 5) (pv 4)) (nomark _)) pa_nil))) pa_nil))))) (pss_one (ps_ret pe_bl)) pss_nil)
        (pss_one (ps_ret (pe_call (ok__law_same T) (hr.mono (by decide)) (by rfl) T.m__law_same T.F__law_same.kp (b__law_same T) .nil pass0 (pa_cons (pe_tup (pa_cons (pe_call (ok_is_below T) (hr.mono (by decide)) (by rfl) T.m_is_below T.F_is_below.kp (b_is_below T) .nil pass0 (pa_cons (pv 1) (pa_cons (pv 1) pa_nil))) (pa_cons (pe_callK0 (ok_less T) (hr.mono (by decide)) (by rfl) T.m_less T.F_less.kp (kb_less T) pass0 (pk_cons (pv 1) (pk_cons (pv 1) pk_nil))) pa_nil))) (pa_cons (pe_tup (pa_cons pe_bl (pa_cons (pe_tup (pa_cons pe_int (pa_cons pe_int pa_nil))) pa_nil))) pa_nil))))))))))), ?_⟩)
  refine body_ok 3 (by decide) (l__law_pair_right) h (fun Γ ds Ψ Ξ hK hX hF hc ke => ?_)
  subst hK
  obtain ⟨p, q, rfl, hp, hq, hc⟩ := hc
  have bp : Bd p := (hp.in_ (.sh p) (by decide)).bd
  have bq : Bd q := (hq.in_ (.sh q) (by decide)).bd
  obtain ⟨bp1, bp2⟩ := bp
  obtain ⟨bq1, bq2⟩ := bq
  have pp := hp.is.pos
  have pq := hq.is.pos
  have nz : p.2 * q.2 ≠ 0 := mul_nz (by omega) (by omega)
  have nb := mwb bp2 bq2
  walk_at "rs"
  refine fun x1 hx1 => ?_
  walk_at "rs"
  refine fun y1 hy1 => ?_
  walk_at "rs"
  refine ⟨_, _, p, q, rfl, hp.in_ hx1 (by decide), hq.in_ hy1 (by decide), ?_⟩
  walk_at "rs"
  refine fun x2 hx2 => ?_
  walk_at "rs"
  refine fun y2 hy2 => ?_
  walk_at "rs"
  refine ⟨_, _, p, q, rfl, hp.in_ hx2 (by decide), hq.in_ hy2 (by decide), ?_⟩
  walk_at "rs"
  refine sw_cut (fun ρ => ∃ z, ρ = [some (.fz (.ptr Γ.R.w)), some (.fz (shD p)), some (.fz (shD q)), some (.fz (.int p.1)), some (.fz (.int p.2)), some (.fz (.int q.1)), some (.fz (.int q.2)), z]) ?_ ?_
  · walk_at "rd"
    refine ⟨nz, nb, ?_⟩
    walk_at "rd"
    refine ⟨nz, nb, ?_⟩
    walk_at "rd"
    refine ⟨sd_two sd_sh sd_sh, _, rfl, br_f ?_⟩
    walk_at "rd"
    exact ⟨_, rfl⟩
  · rintro ρ ⟨z, rfl⟩
    walk_at "rs"
    refine fun x1 hx1 => ?_
    walk_at "rs"
    refine fun y1 hy1 => ?_
    walk_at "rs"
    refine ⟨_, _, p, q, rfl, hp.in_ hx1 (by decide), hq.in_ hy1 (by decide), ?_⟩
    walk_at "rs"
    refine fun x2 hx2 => ?_
    walk_at "rs"
    refine fun y2 hy2 => ?_
    walk_at "rs"
    refine ⟨_, _, p, q, rfl, hp.in_ hx2 (by decide), hq.in_ hy2 (by decide), ?_⟩
    walk_at "rs"
    refine sw_cut (fun ρ => ∃ z, ρ = [some (.fz (.ptr Γ.R.w)), some (.fz (shD p)), some (.fz (shD q)), some (.fz (.int p.1)), some (.fz (.int p.2)), some (.fz (.int q.1)), some (.fz (.int q.2)), z]) ?_ ?_
    · walk_at "rd"
      refine ⟨nz, nb, ?_⟩
      walk_at "rd"
      refine ⟨sd_two sd_sh (.bl _ _), _, rfl, br_f ?_⟩
      walk_at "rd"
      exact ⟨_, rfl⟩
    · rintro ρ ⟨z, rfl⟩
      walk_at "rd"
      refine ⟨_, _, p, p, rfl, hp.in_ (.sh p) (by decide), hp.in_ (.sh p) (by decide), ?_⟩
      walk_at "rd"
      refine ew_of_eb (eb_callKP rfl trivial rep_kw2 ?_)
      walk_at "rd"
      refine ⟨_, _, p, p, rfl, hp.in_ (.sh p) (by decide), hp.in_ (.sh p) (by decide), ?_⟩
      walk_at "rd"
      have e1 : decide (p.1 * p.2 < p.1 * p.2) = false := decide_eq_false (Int.lt_irrefl _)
      have e2 : red (p.1 * p.2 - p.1 * p.2) (p.2 * p.2) = (0, 1) := by
        rw [Int.sub_self]
        exact red_zero (mul_nz (by omega) (by omega))
      show c__law_same Γ.K 0 [.tup [.bl (decide (p.1 * p.2 < p.1 * p.2)), shD (red (p.1 * p.2 - p.1 * p.2) (p.2 * p.2))], .tup [.bl false, shD (0, 1)]] _ NoX
      rw [e1, e2]
      exact ⟨_, rfl, sd_two (.bl _ _) sd_sh, hc⟩
/-- what may be asked whether it is a share -/
def NearD (K : PySem.W.Frag) (d : D) : Prop := (Kn d ∨ ∃ C fs, d = .obj C fs ∧ ObjTy K C ∧ PySem.W.kitOne K (.ref C) (.type "tuple") = some false) ∧ ∀ x y, d = .tup [x, y] → Kn x ∧ Kn y
def Near (K : PySem.W.Frag) (x : D) : Prop := ∃ d, x = .tup [d, .bl (isShD d)] ∧ NearD K d
theorem near_kn {K : PySem.W.Frag} {d : D} {b : Bool} (e : isShD d = b) (k : Kn d) (h : ∀ x y, d = .tup [x, y] → Kn x ∧ Kn y) : Near K (.tup [d, .bl b]) := ⟨d, by rw [e], .inl k, h⟩
theorem near_two {K : PySem.W.Frag} {x y : D} {b : Bool} (e : isShD (.tup [x, y]) = b) (kx : Kn x) (ky : Kn y) : Near K (.tup [.tup [x, y], .bl b]) := near_kn e kn_tup fun u v z => by
  cases z
  exact ⟨kx, ky⟩
theorem near_sh {K : PySem.W.Frag} {a b : Int} (h : 0 < b) (g : gi a b = 1) : Near K (.tup [.tup [.int a, .int b], .bl true]) := near_two (by show (decide (0 < b) && decide (gi a b = 1)) = true; rw [decide_eq_true h, decide_eq_true g]; rfl) kn_int kn_int
theorem near_no {K : PySem.W.Frag} {a b : Int} (h : ¬ (0 < b ∧ gi a b = 1)) : Near K (.tup [.tup [.int a, .int b], .bl false]) := near_two (by
  show (decide (0 < b) && decide (gi a b = 1)) = false
  by_cases h1 : 0 < b
  · rw [decide_eq_true h1, decide_eq_false fun z => h ⟨h1, z⟩]; rfl
  · rw [decide_eq_false h1]; rfl) kn_int kn_int
theorem gi_two (a b : Int) : gi (2 * a) (2 * b) = 2 * gi a b := by
  unfold gi
  rw [Int.gcd_mul_left]
  simp
theorem gi_minus (a b : Int) : gi (0 - a) b = gi a b := by
  unfold gi
  rw [Int.zero_sub, Int.neg_gcd]
theorem gi_null {b : Int} (h : 0 < b) : gi 0 (1 + b) ≠ 1 := by
  unfold gi
  rw [Int.gcd_zero_left]
  omega
theorem all_cons {P : D → Prop} {x : D} {xs : List D} (h : P x) (hs : ∀ y ∈ xs, P y) : ∀ y ∈ x :: xs, P y := fun y m => by
  rcases List.mem_cons.mp m with rfl | m
  · exact h
  · exact hs y m
theorem all_nil {P : D → Prop} : ∀ y ∈ ([] : List D), P y := fun y m => absurd m (by simp)
theorem all_app {P : D → Prop} {xs ys : List D} (h : ∀ y ∈ xs, P y) (h' : ∀ y ∈ ys, P y) : ∀ y ∈ xs ++ ys, P y := fun y m => (List.mem_append.mp m).elim (h y) (h' y)
theorem log_sm {a : Int} {n : Nat} (h : a.natAbs < 2 ^ n) (hn : n ≤ 1900) : a.natAbs.log2 < 1920 := Nat.lt_of_lt_of_le (PySem.Flt.log2_lt_of (Nat.succ_pos n) (Nat.lt_of_lt_of_le h (Nat.pow_le_pow_right (by decide) (Nat.le_succ n)))) (by omega)
abbrev c__law_near : Cn := fun K w ds Ψ Ξ => ∃ p, ds = [.ptr w, shD p] ∧ ShP 60 p ∧ ∀ d, NearD K d → Ψ (.fz (.tup [d, .bl (isShD d)]))
theorem l__law_near : ∀ K w ds Ψ Ξ, c__law_near K w ds Ψ Ξ → ds.length = 2 := fun K w ds Ψ Ξ h => by
  obtain ⟨_, rfl, _⟩ := h
  rfl
theorem ok__law_near {P : Program} {w : World} {K : PySem.W.Frag} {mg : Str → Option Value} {base : Heap} {A : Ad} (T : Txt K mg A) : FnOk P w K mg base CX0 7 A._law_near A.fd__law_near ["well", "one"] (SpD K IsWell c__law_near) := by
  refine Fun.ok T.F__law_near sc__law_near (fun vs H Q E h => spd_len (l__law_near) h) (fun cdv A' outer s H vs Q E hr h => ⟨_, (pss_cons (ps_asg (pv 1) (pg_tup (by rfl) (pgs_cons (pg_name (i := 2) sc__law_near.nd rfl (.inl rfl)) (pgs_cons (pg_name (i := 3) sc__law_near.nd rfl (.inl rfl)) pgs_nil))))
        (pss_cons (ps_set (i := 4) sc__law_near.nd rfl (.inl rfl) (pe_lst (pa_cons (pe_tup (pa_cons (pv 1) (pa_cons pe_bl pa_nil))) (pa_cons (pe_tup (pa_cons (pv 1) (pa_cons pe_bl pa_nil))) (pa_cons (pe_tup (pa_cons (pe_tup (pa_cons (pe_op op_sub pe_int (pv 2)) (pa_cons (pv 3) pa_nil))) (pa_cons pe_bl pa_nil))) (pa_cons (pe_tup (pa_cons (pe_tup (pa_cons pe_int (pa_cons pe_int pa_nil))) (pa_cons pe_bl pa_nil))) (pa_cons (pe_tup (pa_cons (pe_tup (pa_cons (pe_op op_mulW pe_int (pv 2)) (pa_cons (pe_op op_mulW pe_int (pv 3)) pa_nil))) (pa_cons pe_bl pa_nil))) (pa_cons (pe_tup (pa_cons (pe_tup (pa_cons (pv 2) (pa_cons (pe_op op_sub pe_int (pv 3)) pa_nil))) (pa_cons pe_bl pa_nil))) (pa_cons (pe_tup (pa_cons (pe_tup (pa_cons (pv 2) (pa_cons pe_int pa_nil))) (pa_cons pe_bl pa_nil))) pa_nil)))))))))
        (pss_cons (ps_set (i := 4) sc__law_near.nd rfl (.inl rfl) (pe_op op_cat (pv 4) (pe_lst (pa_cons (pe_tup (pa_cons (pe_lst (pa_cons (pv 2) (pa_cons (pv 3) pa_nil))) (pa_cons pe_bl pa_nil))) (pa_cons (pe_tup (pa_cons (pe_tup (pa_cons (pv 2) pa_nil)) (pa_cons pe_bl pa_nil))) (pa_cons (pe_tup (pa_cons (pe_tup (pa_cons (pv 2) (pa_cons (pv 3) (pa_cons pe_int pa_nil)))) (pa_cons pe_bl pa_nil))) (pa_cons (pe_tup (pa_cons (pv 2) (pa_cons pe_bl pa_nil))) (pa_cons (pe_tup (pa_cons (pe_callTy call_str_int (by rfl) T.b_str (by decide +kernel) (pa_cons (pv 2) pa_nil)) (pa_cons pe_bl pa_nil))) (pa_cons (pe_tup (pa_cons pe_non (pa_cons pe_bl pa_nil))) pa_nil)))))))))
        (pss_cons (ps_set (i := 4) sc__law_near.nd rfl (.inl rfl) (pe_op op_cat (pv 4) (pe_lst (pa_cons (pe_tup (pa_cons (pe_tup (pa_cons (pv 2) (pa_cons pe_bl pa_nil))) (pa_cons pe_bl pa_nil))) (pa_cons (pe_tup (pa_cons (pe_tup (pa_cons (pe_cmpR op_eq (pv 2) pe_int (nomark _)) (pa_cons pe_int pa_nil))) (pa_cons pe_bl pa_nil))) (pa_cons (pe_tup (pa_cons (pe_tup (pa_cons (pv 2) (pa_cons (pe_callTy call_str_int (by rfl) T.b_str (by decide +kernel) (pa_cons (pv 3) pa_nil)) pa_nil))) (pa_cons pe_bl pa_nil))) (pa_cons (pe_tup (pa_cons (pe_tup (pa_cons pe_int (pa_cons (pe_op op_add pe_int (pv 3)) pa_nil))) (pa_cons pe_bl pa_nil))) (pa_cons (pe_tup (pa_cons (pe_tup (pa_cons pe_int (pa_cons pe_int pa_nil))) (pa_cons pe_bl pa_nil))) pa_nil))))))))
        (pss_cons (ps_set (i := 4) sc__law_near.nd rfl (.inl rfl) (pe_op op_cat (pv 4) (pe_lst (pa_cons (pe_tup (pa_cons (pe_tup (pa_cons (pe_tup (pa_cons (pv 2) (pa_cons (pv 3) pa_nil))) pa_nil)) (pa_cons pe_bl pa_nil))) (pa_cons (pe_tup (pa_cons (pe_tup (pa_cons pe_non (pa_cons (pv 3) pa_nil))) (pa_cons pe_bl pa_nil))) (pa_cons (pe_tup (pa_cons (pe_make T.mk_Web (ok_Web__init T) (hr.mono (by decide)) (by rfl) T.m_Web (b_Web__init T) .nil passLN (pa_cons pe_int (pa_cons (pe_tup pa_nil) pa_nil))) (pa_cons pe_bl pa_nil))) (pa_cons (pe_tup (pa_cons (pe_tup (pa_cons (pv 2) (pa_cons (pe_tup (pa_cons (pv 3) pa_nil)) pa_nil))) (pa_cons pe_bl pa_nil))) (pa_cons (pe_tup (pa_cons (pe_tup pa_nil) (pa_cons pe_bl pa_nil))) pa_nil))))))))
        (pss_one (ps_ret (pe_ix ix_list (pv 4) (pe_call (ok__law_draw T) (hr.mono (by decide)) (by rfl) T.m__law_draw T.F__law_draw.kp (b__law_draw T) .nil pass0 (pa_cons (pv 0) (pa_cons (pe_callB call_len_seq (by rfl) T.b_len (by decide +kernel) (pa_cons (pv 4) pa_nil)) pa_nil))) (fun _ _ => rfl))))))))), ?_⟩)
  refine body_ok 2 (by decide) (l__law_near) h (fun Γ ds Ψ Ξ hK hX hF hc ke => ?_)
  subst hK
  obtain ⟨p, rfl, hp, hc⟩ := hc
  obtain ⟨bp1, bp2⟩ : Bd p := (hp.in_ (.sh p) (by decide)).bd
  have pp := hp.is.pos
  have pg := hp.is.2
  have l1 : p.1.natAbs.log2 < 1920 := log_sm hp.sm.1 (by decide)
  have l2 : p.2.natAbs.log2 < 1920 := log_sm hp.sm.2 (by decide)
  have h2 : (2 : Int).natAbs < 2 ^ 4400 := sm_mono (m := 2) (by decide) (by decide)
  refine sw_seq (sw_unp2 rfl rfl (ew_var rfl ⟨_, _, rfl, ?_⟩))
  have start : ∀ (f g : List D) (n : Nat), f.length = n → (∀ y ∈ f, Near Γ.K y) → (∀ y ∈ g, Near Γ.K y) → (f ++ g).length = n + g.length ∧ ∀ y ∈ f ++ g, Near Γ.K y := fun f g n e h h' => ⟨by rw [List.length_append, e], all_app h h'⟩
  refine sw_cut (fun ρ => ∃ ds, ρ = [some (.fz (.ptr Γ.R.w)), some (.fz (shD p)), some (.fz (.int p.1)), some (.fz (.int p.2)), some (.ow (.lst ds))] ∧ ds.length = 7 ∧ ∀ y ∈ ds, Near Γ.K y) (sw_asgB (eb_lst ?_)) ?_
  · walk_at "rd"
    refine ⟨rfl, all_cons (near_sh pp pg) (all_cons (near_sh pp pg) (all_cons (near_sh pp (by rw [gi_minus]; exact pg)) (all_cons (near_sh (a := 0) (b := 1) (by decide) (by decide)) (all_cons (near_no ?_) (all_cons (near_no ?_) (all_cons (near_no ?_) all_nil))))))⟩
    · rw [gi_two, pg]
      omega
    · omega
    · omega
  · rintro ρ ⟨ds, rfl, hl, ha⟩
    refine sw_cut (fun ρ => ∃ ds, ρ = [some (.fz (.ptr Γ.R.w)), some (.fz (shD p)), some (.fz (.int p.1)), some (.fz (.int p.2)), some (.ow (.lst ds))] ∧ ds.length = 13 ∧ ∀ y ∈ ds, Near Γ.K y) (sw_asgB (eb_catO rfl (eb_lst ?_))) ?_
    · walk_at "rd"
      refine ⟨_, cbv_strI l1, ?_⟩
      walk_at "rd"
      refine ⟨rfl, by rw [hl]; exact Nat.le_of_ble_eq_true rfl, _, rfl, start ds _ 7 hl ha ?_⟩
      exact all_cons (near_kn rfl ⟨_, rfl⟩ fun _ _ z => by cases z) (all_cons (near_kn rfl kn_tup fun _ _ z => by cases z) (all_cons (near_kn rfl kn_tup fun _ _ z => by cases z) (all_cons (near_kn rfl kn_int fun _ _ z => by cases z) (all_cons (near_kn rfl ⟨_, rfl⟩ fun _ _ z => by cases z) (all_cons (near_kn rfl ⟨_, rfl⟩ fun _ _ z => by cases z) all_nil)))))
    · rintro ρ ⟨ds, rfl, hl, ha⟩
      refine sw_cut (fun ρ => ∃ ds, ρ = [some (.fz (.ptr Γ.R.w)), some (.fz (shD p)), some (.fz (.int p.1)), some (.fz (.int p.2)), some (.ow (.lst ds))] ∧ ds.length = 18 ∧ ∀ y ∈ ds, Near Γ.K y) (sw_asgB (eb_catO rfl (eb_lst ?_))) ?_
      · walk_at "rd"
        refine ⟨_, cbv_strI l2, ?_⟩
        walk_at "rd"
        refine ⟨rfl, by rw [hl]; exact Nat.le_of_ble_eq_true rfl, _, rfl, start ds _ 13 hl ha ?_⟩
        exact all_cons (near_two rfl kn_int ⟨_, rfl⟩) (all_cons (near_two rfl ⟨_, rfl⟩ kn_int) (all_cons (near_two rfl kn_int ⟨_, rfl⟩) (all_cons (near_no fun z => gi_null pp z.2) (all_cons (near_no (a := 0) (b := 0) (by decide)) all_nil))))
      · rintro ρ ⟨ds, rfl, hl, ha⟩
        refine sw_cut (fun ρ => ∃ ds, ρ = [some (.fz (.ptr Γ.R.w)), some (.fz (shD p)), some (.fz (.int p.1)), some (.fz (.int p.2)), some (.ow (.lst ds))] ∧ ds.length = 23 ∧ ∀ y ∈ ds, Near Γ.K y) (sw_asgB (eb_catO rfl (eb_lst ?_))) ?_
        · walk_at "rd"
          refine ew_of_eb (eb_make rfl ?_)
          walk_at "rd"
          refine ⟨by decide, ?_⟩
          walk_at "rd"
          refine ⟨rfl, by rw [hl]; exact Nat.le_of_ble_eq_true rfl, _, rfl, start ds _ 18 hl ha ?_⟩
          exact all_cons (near_kn rfl kn_tup fun _ _ z => by cases z) (all_cons (near_two rfl ⟨_, rfl⟩ kn_int) (all_cons ⟨_, rfl, .inr ⟨_, _, rfl, T.ot_Web, T.kt_Web_tuple⟩, fun _ _ z => by cases z⟩ (all_cons (near_two rfl kn_int kn_tup) (all_cons (near_kn rfl kn_tup fun _ _ z => by cases z) all_nil))))
        · rintro ρ ⟨ds, rfl, hl, ha⟩
          refine sw_ret (ew_ixO rfl rfl (ew_callR rfl hF (aw_cons (ew_var rfl (aw_cons (ew_lenO rfl rfl (aw_nil ⟨_, rfl, by rw [hl]; decide, by rw [hl]; decide, fun i i0 i1 => ?_⟩)))))))
          obtain ⟨n, rfl⟩ := Int.eq_ofNat_of_zero_le i0
          have hn : n < ds.length := by omega
          obtain ⟨d, e, nd⟩ := ha ds[n] (List.getElem_mem hn)
          refine ⟨_, _, _, rfl, rfl, at_nat (List.getElem?_eq_getElem hn), ?_⟩
          rw [e]
          exact hc d nd
end Pf

namespace Pf
open PySem L2 Dl Sh
open Evl (Ex)
local macro_rules | `(tactic| walk_at "r0") => `(tactic| with_reducible first
  | refine sw_seq ?_
  | refine ew_var rfl ?_
  | refine ew_int ?_
  | refine ew_bl ?_
  | refine ew_non ?_
  | refine ew_str ?_
  | refine aw_cons ?_
  | refine aw_nil ?_
  | refine sw_par ?_
  | refine sw_next ?_
  | refine sw_if ?_
  | refine sw_ret ?_
  | refine tw_not ?_
  | refine tw_and ?_
  | refine tw_or ?_
  | refine tw_test ?_
  | refine tw_B ?_
  | refine tw_tru rfl ?_
  | refine ew_andV ?_
  | refine ew_orV ?_
  | refine ew_notV ?_
  | refine ew_if ?_
  | refine ew_chain ?_
  | refine ew_isN ?_
  | refine ew_tup ?_
  | refine ew_lst ?_
  | refine ew_isi rfl ?_
  | refine ew_isi2 rfl ?_
  | refine ew_cb ?_
  | refine ew_neg ?_
  | refine ew_op ?_
  | refine ⟨_, opv_int, ?_⟩
  | refine ⟨_, opv_cmp, ?_⟩
  | refine ⟨_, opv_eq, ?_⟩
  | refine ⟨_, opv_ne, ?_⟩
  | refine ⟨_, opv_eqB, ?_⟩
  | refine ⟨_, opv_eqS, ?_⟩
  | refine ⟨_, cbv_abs, ?_⟩
  | refine ⟨_, cbv_int, ?_⟩
  | refine ⟨_, rfl, ?_⟩
  | refine ⟨_, _, rfl, ?_⟩
  | refine br_t ?_
  | refine br_f ?_
  | refine sw_asg ?_)
local macro_rules | `(tactic| walk_at "r1") => `(tactic| first
  | walk_at "r0"
  | ((with_reducible refine ew_callP ?hK trivial ?_); (case hK => rfl))
  | ((with_reducible refine ew_callH ?hK trivial ?_); (case hK => rfl))
  | ((with_reducible refine ew_callR ?hK ?hF ?_); (case hK => rfl); (case hF => assumption))
  | ((with_reducible refine len_ok ?hK ?_); (case hK => rfl))
  | ((with_reducible refine sw_unp2 ?hK ?hn ?_); (case hK => rfl); (case hn => rfl)))
local macro_rules | `(tactic| walk_at "side") => `(tactic| first
  | exact Or.inr (by decide)
  | exact Or.inl (by decide)
  | exact ⟨by decide, by decide⟩
  | exact ⟨by decide, by decide, by decide⟩
  | decide
  | (dsimp only; decide)
  | exact mw (by assumption) (by assumption))
local macro_rules | `(tactic| walk_at "r2") => `(tactic| first
  | walk_at "r1"
  | ((with_reducible refine ⟨_, opv_intC ?hC, ?_⟩); (case hC => walk_at "side"))
  | ((with_reducible refine ⟨_, cbv_lenL ?hK, ?_⟩); (case hK => rfl))
  | ((with_reducible refine ⟨_, cbv_lenT ?hK, ?_⟩); (case hK => rfl))
  | (with_reducible refine ⟨_, opv_ixT (by with_unfolding_all rfl) (by with_unfolding_all rfl), ?_⟩)
  | refine br_t ?_
  | refine br_f ?_)
local macro_rules | `(tactic| walk_at "rd") => `(tactic| repeat (walk_at "r2"))
local macro_rules | `(tactic| walk_at "rs") => `(tactic| repeat ((fail_if_success (with_reducible refine sw_isif ?_)); walk_at "r2"))
local macro_rules | `(tactic| walk_at "nf") => `(tactic| (try simp only [List.set_cons_zero, List.set_cons_succ, Dl.sets, Dl.asD]))

def NotOw (b : Option B) : Prop := ∀ es, b ≠ some (.ow es)
def IsNo (R : Rsc) : Prop := R = Rsc.no
abbrev c__law_whole : Cn := fun K w ds Ψ Ξ => ∃ ns : List Int, ds = [.lst (ns.map D.int)] ∧ Ψ (.fz (.bl true))
theorem sm_p {n m : Nat} {p : Int × Int} (h : Sm n p) (l : n ≤ m) : Sm m p := ⟨sm_mono h.1 l, sm_mono h.2 l⟩
/-- the sum of the first i shares -/
structure DueAt (ps : List (Int × Int)) (i : Nat) (t : Int × Int) : Prop where
  is : t = (ps.take i).foldl stepD (0, 1)
  pos : 0 < t.2
  bd : Sm (1 + 15 * i) t
theorem item_map {α β : Type} {f : α → β} {ps : List α} {i : Nat} {y : β} (h : (ps.map f)[i]? = some y) : ∃ q, ps[i]? = some q ∧ y = f q := by
  rw [List.getElem?_map] at h
  cases e : ps[i]? with
  | none =>
    rw [e] at h
    cases h
  | some q =>
    rw [e] at h
    exact ⟨q, rfl, (Option.some.inj h).symm⟩
theorem dueAt_more {ps : List (Int × Int)} {i : Nat} {t r : Int × Int} (h : DueAt ps i t) (hr : ps[i]? = some r) (hp : 0 < r.2) (hb : Sm 14 r) : DueAt ps (i + 1) (stepD t r) := by
  refine ⟨by rw [take_more hr, List.foldl_append, ← h.is]; rfl, ?_, ?_⟩
  · exact (red_sh (mul_nz (by have := h.pos; omega) (by omega))).pos
  · have := stepD_sm h.bd hb h.pos hp
    have e : 1 + 15 * i + 14 + 1 = 1 + 15 * (i + 1) := by omega
    rw [e] at this
    exact this
theorem l__law_whole : ∀ K w ds Ψ Ξ, c__law_whole K w ds Ψ Ξ → ds.length = 1 := fun K w ds Ψ Ξ h => by
  obtain ⟨_, rfl, _⟩ := h
  rfl
theorem ok__law_whole {P : Program} {w : World} {K : PySem.W.Frag} {mg : Str → Option Value} {base : Heap} {A : Ad} (T : Txt K mg A) : FnOk P w K mg base CX0 8 A._law_whole A.fd__law_whole ["script"] (SpD K IsNo c__law_whole) := by
  refine Fun.ok T.F__law_whole sc__law_whole (fun vs H Q E h => spd_len (l__law_whole) h) (fun cdv A' outer s H vs Q E hr h => ⟨_, (pss_cons (ps_for PassesOwn.never rfl (pi_range1 (by rfl) T.b_range (pa_cons pe_int pa_nil)) (pg_name (i := 1) sc__law_whole.nd rfl (.inl rfl)) (pss_cons (ps_set (i := 2) sc__law_whole.nd rfl (.inr rfl) (pe_call (ok__law_well T) (hr.mono (by decide)) (by rfl) T.m__law_well T.F__law_well.kp (b__law_well T) .nil pass0 (pa_cons (pv 0) (pa_cons (pv 1) pa_nil))))
        (pss_cons (ps_set (i := 3) sc__law_whole.nd rfl (.inl rfl) (pe_call (ok__law_drawn T) (hr.mono (by decide)) (by rfl) T.m__law_drawn T.F__law_drawn.kp (b__law_drawn T) .nil pass0 (pa_cons (pv 2) pa_nil)))
        (pss_cons (ps_set (i := 4) sc__law_whole.nd rfl (.inl rfl) (pe_call (ok__law_drawn T) (hr.mono (by decide)) (by rfl) T.m__law_drawn T.F__law_drawn.kp (b__law_drawn T) .nil pass0 (pa_cons (pv 2) pa_nil)))
        (pss_cons (ps_set (i := 5) sc__law_whole.nd rfl (.inl rfl) (pe_call (ok__law_draw T) (hr.mono (by decide)) (by rfl) T.m__law_draw T.F__law_draw.kp (b__law_draw T) .nil pass0 (pa_cons (pv 2) (pa_cons pe_int pa_nil))))
        (pss_cons (ps_if (pt_cmpR op_eq (pv 5) pe_int (nomark _)) (pss_one (ps_set (i := 4) sc__law_whole.nd rfl (.inl rfl) (pe_tup (pa_cons pe_int (pa_cons pe_int pa_nil))))) pss_nil)
        (pss_cons (ps_if (pt_cmpR op_eq (pv 5) pe_int (nomark _)) (pss_one (ps_set (i := 4) sc__law_whole.nd rfl (.inl rfl) (pe_call (ok__law_share T) (hr.mono (by decide)) (by rfl) T.m__law_share T.F__law_share.kp (b__law_share T) .nil pass0 (pa_cons (pe_op op_sub (pe_op op_add (pe_ix ix_tup (pv 3) pe_int (fun _ _ => rfl)) pe_int) (pe_call (ok__law_draw T) (hr.mono (by decide)) (by rfl) T.m__law_draw T.F__law_draw.kp (b__law_draw T) .nil pass0 (pa_cons (pv 2) (pa_cons pe_int pa_nil)))) (pa_cons (pe_ix ix_tup (pv 3) pe_int (fun _ _ => rfl)) pa_nil))))) pss_nil)
        (pss_cons (ps_if (PW.pt (pw_or (pt_not (pt_val (pe_call (ok__law_pair_right T) (hr.mono (by decide)) (by rfl) T.m__law_pair_right T.F__law_pair_right.kp (b__law_pair_right T) .nil pass0 (pa_cons (pv 2) (pa_cons (pv 3) (pa_cons (pv 4) pa_nil)))))) (pw_or1 (pt_not (pt_val (pe_call (ok__law_pair_right T) (hr.mono (by decide)) (by rfl) T.m__law_pair_right T.F__law_pair_right.kp (b__law_pair_right T) .nil pass0 (pa_cons (pv 2) (pa_cons (pv 4) (pa_cons (pv 3) pa_nil))))))))) (pss_one (ps_ret pe_bl)) pss_nil)
        (pss_cons (ps_if (PW.pt (pw_or (pt_not (pt_val (pe_call (ok__law_over_right T) (hr.mono (by decide)) (by rfl) T.m__law_over_right T.F__law_over_right.kp (b__law_over_right T) .nil pass0 (pa_cons (pv 2) (pa_cons (pv 3) (pa_cons (pv 4) pa_nil)))))) (pw_or1 (pt_not (pt_val (pe_call (ok__law_over_right T) (hr.mono (by decide)) (by rfl) T.m__law_over_right T.F__law_over_right.kp (b__law_over_right T) .nil pass0 (pa_cons (pv 2) (pa_cons (pv 4) (pa_cons (pv 3) pa_nil))))))))) (pss_one (ps_ret pe_bl)) pss_nil)
        (pss_cons (ps_if (pt_not (pt_val (pe_call (ok__law_made_right T) (hr.mono (by decide)) (by rfl) T.m__law_made_right T.F__law_made_right.kp (b__law_made_right T) .nil pass0 (pa_cons (pv 2) pa_nil)))) (pss_one (ps_ret pe_bl)) pss_nil)
        (pss_cons (ps_asg (pe_call (ok__law_near T) (hr.mono (by decide)) (by rfl) T.m__law_near T.F__law_near.kp (b__law_near T) .nil pass0 (pa_cons (pv 2) (pa_cons (pv 3) pa_nil))) (pg_tup (by rfl) (pgs_cons (pg_name (i := 6) sc__law_whole.nd rfl (.inl rfl)) (pgs_cons (pg_name (i := 7) sc__law_whole.nd rfl (.inl rfl)) pgs_nil))))
        (pss_cons (ps_if (pt_not (pt_val (pe_call (ok__law_same T) (hr.mono (by decide)) (by rfl) T.m__law_same T.F__law_same.kp (b__law_same T) .nil pass0 (pa_cons (pe_call (ok_is_share T) (hr.mono (by decide)) (by rfl) T.m_is_share T.F_is_share.kp (b_is_share T) .nil pass0 (pa_cons (pv 6) pa_nil)) (pa_cons (pv 7) pa_nil))))) (pss_one (ps_ret pe_bl)) pss_nil)
        (pss_cons (ps_setLc (i := 8) (own := [("j", 9)]) (by rfl) sc__law_whole.nd rfl rfl (sw_true rfl rfl rfl (by decide +kernel)) (pi_range1 (by rfl) T.b_range (pa_cons (pe_call (ok__law_draw T) (hr.mono (by decide)) (by rfl) T.m__law_draw T.F__law_draw.kp (b__law_draw T) .nil pass0 (pa_cons (pv 2) (pa_cons pe_int pa_nil))) pa_nil)) (blkOk_by (own := [("j", 9)]) (N := ["script", "k", "well", "one", "other", "way", "thing", "good", "rows", "j", "due", "share", "handed"]) (sc := defScope s__law_whole) (by decide +kernel)) (fun _ _ _ _ _ => (pg_name (i := 9) sc__law_whole.nd rfl (.inl rfl))) (fun _ _ _ _ _ => pts_nil) (fun _ _ _ _ _ => (pe_call (ok__law_drawn T) (hr.mono (by decide)) (by rfl) T.m__law_drawn T.F__law_drawn.kp (b__law_drawn T) .nil pass0 (pa_cons (pv 2) pa_nil))))
        (pss_cons (ps_set (i := 10) sc__law_whole.nd rfl (.inl rfl) (pe_tup (pa_cons pe_int (pa_cons pe_int pa_nil))))
        (pss_cons (ps_for PassesOwn.never rfl (pi_list (pv 8)) (pg_name (i := 11) sc__law_whole.nd rfl (.inl rfl)) (pss_one (ps_set (i := 10) sc__law_whole.nd rfl (.inl rfl) (pe_call (ok__law_share T) (hr.mono (by decide)) (by rfl) T.m__law_share T.F__law_share.kp (b__law_share T) .nil pass0 (pa_cons (pe_op op_add (pe_op op_mulW (pe_ix ix_tup (pv 10) pe_int (fun _ _ => rfl)) (pe_ix ix_tup (pv 11) pe_int (fun _ _ => rfl))) (pe_op op_mulW (pe_ix ix_tup (pv 11) pe_int (fun _ _ => rfl)) (pe_ix ix_tup (pv 10) pe_int (fun _ _ => rfl)))) (pa_cons (pe_op op_mulW (pe_ix ix_tup (pv 10) pe_int (fun _ _ => rfl)) (pe_ix ix_tup (pv 11) pe_int (fun _ _ => rfl))) pa_nil))))))
        (pss_cons (ps_setLc (i := 12) (own := [("share", 11)]) (by rfl) sc__law_whole.nd rfl rfl (sw_true rfl rfl rfl (by decide +kernel)) (pi_list (pv 8)) (blkOk_by (own := [("share", 11)]) (N := ["script", "k", "well", "one", "other", "way", "thing", "good", "rows", "j", "due", "share", "handed"]) (sc := defScope s__law_whole) (by decide +kernel)) (fun _ _ _ _ _ => (pg_name (i := 11) sc__law_whole.nd rfl (.inl rfl))) (fun _ _ _ _ _ => pts_nil) (fun _ _ _ _ _ => (pe_call (ok__law_handed T) (hr.mono (by decide)) (by rfl) T.m__law_handed T.F__law_handed.kp (b__law_handed T) .nil pass0 (pa_cons (pv 2) (pa_cons (pv 11) pa_nil)))))
        (pss_one (ps_if (pt_not (pt_val (pe_call (ok__law_same T) (hr.mono (by decide)) (by rfl) T.m__law_same T.F__law_same.kp (b__law_same T) .nil pass0 (pa_cons (pe_tup (pa_cons (pe_call (ok_total_of T) (hr.mono (by decide)) (by rfl) T.m_total_of T.F_total_of.kp (b_total_of T) .nil pass0 (pa_cons (pe_callTy call_tuple_of (by rfl) T.b_tuple (by decide +kernel) (pa_cons (pv 12) pa_nil)) pa_nil)) (pa_cons (pe_call (ok_total_of T) (hr.mono (by decide)) (by rfl) T.m_total_of T.F_total_of.kp (b_total_of T) .nil pass0 (pa_cons (pe_callTy call_list_of (by rfl) T.b_list (by decide +kernel) (pa_cons (pv 8) pa_nil)) pa_nil)) pa_nil))) (pa_cons (pe_tup (pa_cons (pv 10) (pa_cons (pv 10) pa_nil))) pa_nil))))) (pss_one (ps_ret pe_bl)) pss_nil))))))))))))))))))
        (pss_one (ps_ret (pe_call (ok__law_same T) (hr.mono (by decide)) (by rfl) T.m__law_same T.F__law_same.kp (b__law_same T) .nil pass0 (pa_cons (pe_call (ok_total_of T) (hr.mono (by decide)) (by rfl) T.m_total_of T.F_total_of.kp (b_total_of T) .nil pass0 (pa_cons (pe_lst pa_nil) pa_nil)) (pa_cons (pe_tup (pa_cons pe_int (pa_cons pe_int pa_nil))) pa_nil)))))), ?_⟩)
  refine body_ok 1 (by decide) (l__law_whole) h (fun Γ ds Ψ Ξ hK hX hF hc ke => ?_)
  subst hK
  obtain ⟨ns, rfl, hc⟩ := hc
  have hN : Γ.R = Rsc.no := hF
  refine sw_seq (sw_forR (aw_cons (ew_int (aw_nil ⟨_, rfl, by constructor <;> decide, fun i ρ => ∃ b1 b2 b3 b4 b5 b6 b7 b8 b10 b11 b12, NotOw b11 ∧ ρ = [some (.fz (.lst (ns.map D.int))), b1, b2, b3, b4, b5, b6, b7, b8, none, b10, b11, b12], ⟨_, _, _, _, _, _, _, _, _, none, _, (fun es z => by cases z), rfl⟩, ?_, ?_⟩))))
  · rintro i ρ2 hi ⟨b1, b2, b3, b4, b5, b6, b7, b8, b10, b11, b12, hb, rfl⟩
    refine ⟨_, gd_name, ?_⟩
    refine sw_seq (sw_asgB (eb_callP rfl trivial (aw_cons (ew_var rfl (aw_cons (ew_var rfl (aw_nil ⟨ns, (i : Int), rfl, by omega, by omega, fun c s c0 s0 => ?_⟩)))))))
    refine sw_well (i := 2) hN hX rfl c0 s0 fun w' => ?_
    have hF' : IsWell (wellR w') := ⟨w', rfl⟩
    refine sw_seq (sw_asg (ew_callR rfl hF' (aw_cons (ew_var rfl (aw_nil ⟨rfl, fun p ip sp => ?_⟩)))))
    refine sw_seq (sw_asg (ew_callR rfl hF' (aw_cons (ew_var rfl (aw_nil ⟨rfl, fun q iq sq => ?_⟩)))))
    walk_at "rs"
    refine ⟨by decide, by decide, fun way w0 w1 => ?_⟩
    walk_at "rs"
    refine sw_cut (fun ρ => ∃ b6 b7 b8, ρ = [some (.fz (.lst (ns.map D.int))), some (.fz (.int (i : Int))), some (.fz (.ptr w')), some (.fz (shD p)), some (.fz (shD (if way = 0 then (0, 1) else q))), some (.fz (.int way)), b6, b7, b8, none, b10, b11, b12]) ?_ ?_
    · walk_at "rd"
      refine ⟨fun h1 => ?_, fun h1 => ?_⟩
      · walk_at "rd"
        rw [if_pos (of_decide_eq_true h1)]
        exact ⟨_, _, _, rfl⟩
      · walk_at "rd"
        rw [if_neg (of_decide_eq_false h1)]
        exact ⟨_, _, _, rfl⟩
    · rintro ρ ⟨b6, b7, b8, rfl⟩
      have hq0 : ShP 60 (if way = 0 then (0, 1) else q) := by
        by_cases h : way = 0
        · rw [if_pos h]
          exact ⟨⟨by decide, by decide⟩, ⟨by decide, by decide⟩⟩
        · rw [if_neg h]
          exact ⟨iq, sm_p sq (by decide)⟩
      generalize (if way = 0 then (0, 1) else q) = q at hq0 ⊢
      refine sw_cut (fun ρ => ∃ q b6 b7 b8, ShP 60 q ∧ ρ = [some (.fz (.lst (ns.map D.int))), some (.fz (.int (i : Int))), some (.fz (.ptr w')), some (.fz (shD p)), some (.fz (shD q)), some (.fz (.int way)), b6, b7, b8, none, b10, b11, b12]) ?_ ?_
      · walk_at "rd"
        refine ⟨fun h1 => ?_, fun h1 => ?_⟩
        · walk_at "rd"
          refine ⟨by decide, by decide, fun d d0 d1 => ?_⟩
          walk_at "rd"
          have p1 := sp.1
          have p2 := sp.2
          have pz : p.2 ≠ 0 := by have := ip.pos; omega
          refine ⟨pz, na_lt p2 (big_le (by decide)), ?_⟩
          exact ⟨red (p.1 + 1 - d) p.2, _, _, _, ⟨red_sh pz, sm_p (red_sm (n := 15) pz (by omega) (by omega)) (by decide)⟩, rfl⟩
        · walk_at "rd"
          exact ⟨_, _, _, _, hq0, rfl⟩
      · rintro ρ ⟨q, b6, b7, b8, hq, rfl⟩
        have hp : ShP 60 p := ⟨ip, sm_p sp (by decide)⟩
        refine sw_cut (fun ρ => ρ = [some (.fz (.lst (ns.map D.int))), some (.fz (.int (i : Int))), some (.fz (.ptr w')), some (.fz (shD p)), some (.fz (shD q)), some (.fz (.int way)), b6, b7, b8, none, b10, b11, b12]) ?_ ?_
        · walk_at "rd"
          refine ⟨hp, hq, _, rfl, br_f ?_⟩
          walk_at "rd"
          refine ⟨hq, hp, _, rfl, br_f ?_⟩
          walk_at "rd"
          rfl
        · rintro ρ rfl
          refine sw_cut (fun ρ => ρ = [some (.fz (.lst (ns.map D.int))), some (.fz (.int (i : Int))), some (.fz (.ptr w')), some (.fz (shD p)), some (.fz (shD q)), some (.fz (.int way)), b6, b7, b8, none, b10, b11, b12]) ?_ ?_
          · walk_at "rd"
            refine ⟨hp, hq, _, rfl, br_f ?_⟩
            walk_at "rd"
            refine ⟨hq, hp, _, rfl, br_f ?_⟩
            walk_at "rd"
            rfl
          · rintro ρ rfl
            refine sw_cut (fun ρ => ρ = [some (.fz (.lst (ns.map D.int))), some (.fz (.int (i : Int))), some (.fz (.ptr w')), some (.fz (shD p)), some (.fz (shD q)), some (.fz (.int way)), b6, b7, b8, none, b10, b11, b12]) ?_ ?_
            · walk_at "rd"
              refine ⟨rfl, _, rfl, br_f ?_⟩
              walk_at "rd"
              rfl
            · rintro ρ rfl
              walk_at "rs"
              refine ⟨hp, fun d nd => ?_⟩
              walk_at "rs"
              refine sw_cut (fun ρ => ∃ b6 b7, ρ = [some (.fz (.lst (ns.map D.int))), some (.fz (.int (i : Int))), some (.fz (.ptr w')), some (.fz (shD p)), some (.fz (shD q)), some (.fz (.int way)), b6, b7, b8, none, b10, b11, b12]) ?_ ?_
              · walk_at "rd"
                refine ⟨nd.1, nd.2, ?_⟩
                walk_at "rd"
                refine ⟨.bl _ _, _, rfl, br_f ?_⟩
                walk_at "rd"
                exact ⟨_, _, rfl⟩
              · rintro ρ ⟨b6, b7, rfl⟩
                refine sw_seq (sw_asg (ew_of_eb (eb_lcR ?_)))
                walk_at "rd"
                refine ⟨by decide, by decide, fun n n0 n1 => ?_⟩
                refine aw_nil ⟨n, rfl, by omega, gw_name (by decide), fun j hj es => ?_, by rw [rngD_len]; omega, fun i acc => ∃ ps : List (Int × Int), acc = ps.map shD ∧ ps.length = i ∧ ∀ p ∈ ps, IsSh p ∧ Sm 14 p, ⟨[], rfl, rfl, fun p h => absurd h (by simp)⟩, ?_, ?_⟩
                · rw [List.mem_singleton.mp hj]
                  intro z
                  cases z
                · rintro i x acc c hi ⟨ps, rfl, hl, ha⟩
                  refine ⟨_, gd_name, rfl, tw_yes ⟨rfl, fun _ => ?_, fun z => by cases z⟩⟩
                  refine ew_callR rfl hF' (aw_cons (ew_var rfl (aw_nil ⟨rfl, fun r ir sr => ⟨rfl, ps ++ [r], ?_, ?_, ?_⟩⟩)))
                  · rw [List.map_append]
                    rfl
                  · rw [List.length_append, hl]
                    rfl
                  · intro p h
                    rcases List.mem_append.mp h with h | h
                    · exact ha p h
                    · rw [List.mem_singleton.mp h]
                      exact ⟨ir, sr⟩
                · rintro acc ⟨ps, rfl, hl, ha⟩
                  rw [rngD_len] at hl
                  walk_at "rs"
                  refine sw_forL rfl (ew_var rfl ⟨_, rfl, fun i' ρ => ∃ t c, NotOw c ∧ DueAt ps i' t ∧ ρ = [some (.fz (.lst (ns.map D.int))), some (.fz (.int (i : Int))), some (.fz (.ptr w')), some (.fz (shD p)), some (.fz (shD q)), some (.fz (.int way)), b6, b7, some (.fz (.lst (ps.map shD))), none, some (.fz (shD t)), c, b12], ⟨(0, 1), _, hb, ⟨rfl, by decide, ⟨by decide, by decide⟩⟩, rfl⟩, fun i' y ρ2 hi hJ => ?_, fun ρ2 hJ => ?_⟩)
                  · obtain ⟨r, hr, rfl⟩ := item_map hi
                    obtain ⟨t, c, hc', ht, rfl⟩ := hJ
                    obtain ⟨ir, sr⟩ := ha r (List.mem_of_getElem? hr)
                    have hi8 : i' < 8 := by
                      have := (List.getElem?_eq_some_iff.mp hr).1
                      omega
                    have t1 : t.1.natAbs < 2 ^ 4400 := sm_mono ht.bd.1 (by omega)
                    have t2 : t.2.natAbs < 2 ^ 4400 := sm_mono ht.bd.2 (by omega)
                    have r1 : r.1.natAbs < 2 ^ 4400 := sm_mono sr.1 (by decide)
                    have r2 : r.2.natAbs < 2 ^ 4400 := sm_mono sr.2 (by decide)
                    have tp := ht.pos
                    have rp := ir.pos
                    refine ⟨_, gd_name, ?_⟩
                    walk_at "rd"
                    refine ⟨mul_nz (by omega) (by omega), mwb t2 r2, ?_⟩
                    exact ⟨stepD t r, _, (fun es z => by cases z), dueAt_more ht hr rp sr, rfl⟩
                  · obtain ⟨t, c, hc', ht, rfl⟩ := hJ
                    rw [List.length_map] at ht
                    refine sw_seq (sw_asg (ew_of_eb (eb_lcL rfl (ew_var rfl ⟨_, rfl, gw_name (by decide), fun j hj es => ?_, by rw [List.length_map]; omega, fun i acc => ∃ qs : List (D × (Int × Int)), acc = qs.map (·.1) ∧ qs.map (·.2) = ps.take i ∧ ∀ q ∈ qs, AsSh q.1 q.2, ⟨[], rfl, rfl, fun q h => absurd h (by simp)⟩, ?_, ?_⟩))))
                    · rw [List.mem_singleton.mp hj]
                      exact fun z => hc' es (Option.some.inj z)
                    · rintro i x acc c hi ⟨qs, rfl, hq, hs⟩
                      obtain ⟨r, hr, rfl⟩ := item_map hi
                      refine ⟨_, gd_name, rfl, tw_yes ⟨rfl, fun _ => ?_, fun z => by cases z⟩⟩
                      refine ew_callR rfl hF' (aw_cons (ew_var rfl (aw_cons (ew_var rfl (aw_nil ⟨r, rfl, fun d hd => ⟨rfl, qs ++ [(d, r)], ?_, ?_, ?_⟩⟩)))))
                      · rw [List.map_append]
                        rfl
                      · rw [List.map_append, hq, take_more hr]
                        rfl
                      · intro p h
                        rcases List.mem_append.mp h with h | h
                        · exact hs p h
                        · rw [List.mem_singleton.mp h]
                          exact hd
                    · rintro acc ⟨qs, rfl, hq, hs⟩
                      rw [List.length_map, List.take_length] at hq
                      have et : t = (ps.foldl stepD (0, 1)) := by
                        have := ht.is
                        rwa [List.take_length] at this
                      subst hq
                      have hm : ∀ q ∈ qs, IsSh q.2 ∧ Sm 14 q.2 := fun q h => ha q.2 (List.mem_map.mpr ⟨q, h, rfl⟩)
                      have ql : qs.length ≤ 20 := by rw [List.length_map] at hl; omega
                      refine sw_if (tw_not (tw_test (ew_callP rfl trivial (aw_cons (ew_tup (aw_cons (ew_callP rfl trivial (aw_cons (ew_tupL rfl (ew_var rfl ⟨_, rfl, aw_nil (.inr ⟨qs, rfl, ⟨ql, fun q h => ⟨hs q h, (hm q h).1.pos, sm_p (hm q h).2 (by decide)⟩⟩, ?_⟩)⟩)) )) ))))))
                      have e1 : (qs.map (·.2)).map shD = (qs.map fun q => (shD q.2, q.2)).map (·.1) := by rw [List.map_map, List.map_map]; rfl
                      have e2 : (qs.map fun q => (shD q.2, q.2)).map (·.2) = qs.map (·.2) := by rw [List.map_map]; rfl
                      refine aw_cons (ew_callP rfl trivial (aw_cons (ew_of_eb (eb_listL rfl (ew_var rfl ⟨_, .inl rfl, aw_nil (.inl ⟨qs.map fun q => (shD q.2, q.2), by rw [← e1], ⟨by rw [List.length_map]; exact ql, fun z h => ?_⟩, ?_⟩)⟩)))))
                      · obtain ⟨q, h', rfl⟩ := List.mem_map.mp h
                        exact ⟨.sh _, (hm q h').1.pos, sm_p (hm q h').2 (by decide)⟩
                      · rw [e2, ← et]
                        refine aw_nil ⟨by show 2 ≤ 100000; omega, ?_⟩
                        walk_at "rd"
                        refine ⟨sd_two sd_sh sd_sh, _, rfl, br_f ?_⟩
                        walk_at "rd"
                        exact ⟨_, _, _, _, _, _, _, _, _, _, _, hc', rfl⟩
  · rintro ρ2 ⟨b1, b2, b3, b4, b5, b6, b7, b8, b10, b11, b12, hb, rfl⟩
    walk_at "rd"
    refine .inl ⟨[], rfl, ⟨Nat.zero_le _, fun q h => absurd h (by simp)⟩, ?_⟩
    walk_at "rd"
    exact ⟨sd_sh (p := (0, 1)), hc⟩
abbrev c_law : Cn := fun K w ds Ψ Ξ => ∃ ns : List Int, ds = [.lst (ns.map D.int)] ∧ Ψ (.fz (.bl true))
theorem l_law : ∀ K w ds Ψ Ξ, c_law K w ds Ψ Ξ → ds.length = 1 := fun K w ds Ψ Ξ h => by
  obtain ⟨_, rfl, _⟩ := h
  rfl
theorem ok_law {P : Program} {w : World} {K : PySem.W.Frag} {mg : Str → Option Value} {base : Heap} {A : Ad} (T : Txt K mg A) : FnOk P w K mg base CX0 9 A.law A.fd_law ["script"] (SpD K IsNo c_law) := by
  refine Fun.ok T.F_law sc_law (fun vs H Q E h => spd_len (l_law) h) (fun cdv A' outer s H vs Q E hr h => ⟨_, (pss_one (ps_try_thru0 (pss_one (ps_ret (pe_call (ok__law_whole T) (hr.mono (by decide)) (by rfl) T.m__law_whole T.F__law_whole.kp (b__law_whole T) .nil pass0 (pa_cons (pv 0) pa_nil)))))), ?_⟩)
  refine body_ok 1 (by decide) (l_law) h (fun Γ ds Ψ Ξ hK hX hF hc ke => ?_)
  subst hK
  obtain ⟨ns, rfl, hc⟩ := hc
  exact sw_ret (ew_callP rfl rfl (aw_cons (ew_var rfl (aw_nil ⟨ns, rfl, hc⟩))))
/-- what the law promises of every script -/
def spLaw (K : PySem.W.Frag) : Sp := fun vs H Q _ => ∃ (a : Addr) (ns : List Int), vs = [.ref a] ∧ SqL K H a (ns.map V.int) ∧ ns.length ≤ 63 ∧ ∀ H', Q (.bl true) H'
theorem splaw_data {K : PySem.W.Frag} {vs : List V} {H : Hp} {Q : VK} {E : XK} (h : spLaw K vs H Q E) : SpD K IsNo c_law vs H Q E := by
  obtain ⟨a, ns, rfl, hS, _, hq⟩ := h
  refine ⟨Rsc.no, H, [.lst (ns.map D.int)], fun b => b = .fz (.bl true), NoX, rfl, trivial, fun _ z => z.elim, Ex.refl H, .cons (.lst hS (RepL.ofInts ns)) .nil, ⟨ns, rfl, rfl⟩, fun b v G' H' _ hb e => ?_, fun _ _ _ _ _ _ _ _ _ _ _ z => z.elim⟩
  subst e
  cases hb
  exact hq H'
theorem ok_law_all {P : Program} {w : World} {K : PySem.W.Frag} {mg : Str → Option Value} {base : Heap} {A : Ad} {k : Nat} (F : FnOk P w K mg base CX0 k A.law A.fd_law ["script"] (SpD K IsNo c_law)) : FnOk P w K mg base CX0 k A.law A.fd_law ["script"] (spLaw K) :=
  ⟨fun vs H Q E h => F.len vs H Q E (splaw_data h), fun A' outer s H args us vs Q E h1 h2 h3 h4 h5 => F.run A' outer s H args us vs Q E h1 h2 h3 h4 (splaw_data h5)⟩
theorem walk {l : PySem.W.OpenLaw} {q : Program} {loose : List Str} {XP : (Str → Option Value) → Heap → Prop} {YP : World → Heap → Prop} {d : DefRec} {K : Params → PySem.W.Frag} (hn : l.most = some 63) (hdf : d.params.defaults = [])
    (hY : ∀ (w : World) (h : Heap), YP w h → (K w.params).In h) (hd : d.name = "law")
    (F : ∀ (w : World) (mg : Str → Option Value) (fa : Addr) (h : Heap), (K w.params).In h → h.Ns mainGlobals mg → mg "law" = some (.ref fa) → ∃ A : Ad, A.law = fa ∧ Txt (K w.params) mg A) :
    PySem.W.WalkO q loose XP YP l.row.toRowW d [] (fun f vs => PySem.call f vs) := by
  refine L2.walk_of (n := 63) (k := 9) (x := "script") (CX := fun _ => CX0) (sp := fun w => spLaw (K w.params)) hn (by decide) hdf ⟨rfl, by decide, by decide⟩ hY ?_ (fun _ _ a ns hl _ hS => ⟨a, ns, rfl, hS, hl, fun _ => rfl⟩) fun _ _ _ _ _ z => z
  intro w mg fa h X G hmg
  obtain ⟨A, e, T⟩ := F w mg fa h X G (by rw [← hd]; exact hmg)
  subst e
  refine ⟨A.fd_law, ?_, fun base _ _ => ok_law_all (ok_law T)⟩
  obtain ⟨_, _, _, _, _, _, _, _, _, e, _, _⟩ := T.F_law.ex
  intro s v
  rw [e]
  exact .of_eq rfl
end Pf
open PySem PySem.W PyProof.Rows
set_option maxRecDepth 100000 in
set_option maxHeartbeats 0 in
theorem PySem.Challenge.cw_mirrorcounts_k00_shares_holds : PySem.Challenge.rw_mirrorcounts_k00_shares.Holds := by
  w_on; o_law; k_head; (case hw => w_witness2)
  k_fill
  refine Pf.walk (l := PySem.Challenge.rw_mirrorcounts_k00_shares) rfl rfl (fun w h Y => PySem.W.kIn_of Y) rfl ?F
  case F =>
    intro w mg fa h KX G hmg
    refine' Pf.all_mk KX G hmg ?aC0 ?aC1 ?aC2 ?aC3 ?aC4 ?a1 ?l1 ?c1 ?k1 ?a2 ?l2 ?c2 ?k2 ?a3 ?l3 ?c3 ?k3 ?a4 ?l4 ?c4 ?k4 ?a5 ?l5 ?c5 ?k5 ?a6 ?l6 ?c6 ?k6 ?a7 ?t7 ?l7 ?c7 ?k7 ?a8 ?t8 ?l8 ?c8 ?k8 ?a9 ?t9 ?l9 ?c9 ?k9 ?a10 ?l10 ?c10 ?k10 ?a11 ?l11 ?c11 ?k11 ?a12 ?l12 ?c12 ?k12 ?a13 ?l13 ?c13 ?k13 ?a14 ?l14 ?c14 ?k14 ?a15 ?l15 ?c15 ?k15 ?a16 ?l16 ?c16 ?k16 ?a17 ?l17 ?c17 ?k17 ?a18 ?l18 ?c18 ?k18 ?a19 ?l19 ?c19 ?k19 ?a20 ?l20 ?c20 ?k20 ?a21 ?l21 ?c21 ?k21 ?a22 ?l22 ?c22 ?k22 ?a23 ?i23 ?l23 ?c23 ?k23 ?a24 ?i24 ?l24 ?c24 ?k24 ?a25 ?l25 ?c25 ?k25 ?a26 ?l26 ?c26 ?k26 ?a27 ?l27 ?c27 ?k27 ?a28 ?l28 ?c28 ?k28 ?a29 ?l29 ?c29 ?k29 ?a30 ?l30 ?c30 ?k30 ?a31 ?l31 ?c31 ?k31 ?a32 ?l32 ?c32 ?k32 ?a33 ?l33 ?c33 ?k33 ?a34 ?l34 ?c34 ?k34 ?a35 ?l35 ?c35 ?k35 ?a36 ?l36 ?c36 ?k36 ?xL0 ?sa0 ?ga0 ?gg0 ?kC0 ?eC0 ?tC0 ?hC0 ?sC0 ?xL1 ?sa1 ?ga1 ?gg1 ?kC1 ?eC1 ?tC1 ?hC1 ?sC1 ?sC1_0 ?no1_value ?xL2 ?sa2 ?ga2 ?gg2 ?kC2 ?eC2 ?tC2 ?hC2 ?sC2 ?sC2_0 ?no2_value ?xL3 ?sa3 ?ga3 ?gg3 ?kC3 ?eC3 ?tC3 ?hC3 ?sC3 ?sC3_0 ?no3_what ?pg4 ?hd4 ?po4 ?sb4 ?mk4 ?kc4 ?ha4 ?hn4 ?ht4 ?hm4 ?kt4_tuple ?no4_size ?no4_ties ?aK0 ?lK0 ?nb_abs ?nb_len ?nb_range ?nb_int ?nb_str ?nb_isinstance ?nb_tuple ?nb_list ?nb_all ?nb_bool ?nb_ValueError
    (case aC0 => first | k_is | rfl)
    (case aC1 => first | k_is | rfl)
    (case aC2 => first | k_is | rfl)
    (case aC3 => first | k_is | rfl)
    (case aC4 => first | k_is | rfl)
    (case a1 => first | k_is | rfl)
    (case l1 => first | k_is | rfl)
    (case c1 => first | k_is | rfl)
    (case k1 => first | k_is | rfl)
    (case a2 => first | k_is | rfl)
    (case l2 => first | k_is | rfl)
    (case c2 => first | k_is | rfl)
    (case k2 => first | k_is | rfl)
    (case a3 => first | k_is | rfl)
    (case l3 => first | k_is | rfl)
    (case c3 => first | k_is | rfl)
    (case k3 => first | k_is | rfl)
    (case a4 => first | k_is | rfl)
    (case l4 => first | k_is | rfl)
    (case c4 => first | k_is | rfl)
    (case k4 => first | k_is | rfl)
    (case a5 => first | k_is | rfl)
    (case l5 => first | k_is | rfl)
    (case c5 => first | k_is | rfl)
    (case k5 => first | k_is | rfl)
    (case a6 => first | k_is | rfl)
    (case l6 => first | k_is | rfl)
    (case c6 => first | k_is | rfl)
    (case k6 => first | k_is | rfl)
    (case a7 => first | k_is | rfl)
    (case t7 => first | k_is | rfl)
    (case l7 => first | k_is | rfl)
    (case c7 => first | k_is | rfl)
    (case k7 => first | k_is | rfl)
    (case a8 => first | k_is | rfl)
    (case t8 => first | k_is | rfl)
    (case l8 => first | k_is | rfl)
    (case c8 => first | k_is | rfl)
    (case k8 => first | k_is | rfl)
    (case a9 => first | k_is | rfl)
    (case t9 => first | k_is | rfl)
    (case l9 => first | k_is | rfl)
    (case c9 => first | k_is | rfl)
    (case k9 => first | k_is | rfl)
    (case a10 => first | k_is | rfl)
    (case l10 => first | k_is | rfl)
    (case c10 => first | k_is | rfl)
    (case k10 => first | k_is | rfl)
    (case a11 => first | k_is | rfl)
    (case l11 => first | k_is | rfl)
    (case c11 => first | k_is | rfl)
    (case k11 => first | k_is | rfl)
    (case a12 => first | k_is | rfl)
    (case l12 => first | k_is | rfl)
    (case c12 => first | k_is | rfl)
    (case k12 => first | k_is | rfl)
    (case a13 => first | k_is | rfl)
    (case l13 => first | k_is | rfl)
    (case c13 => first | k_is | rfl)
    (case k13 => first | k_is | rfl)
    (case a14 => first | k_is | rfl)
    (case l14 => first | k_is | rfl)
    (case c14 => first | k_is | rfl)
    (case k14 => first | k_is | rfl)
    (case a15 => first | k_is | rfl)
    (case l15 => first | k_is | rfl)
    (case c15 => first | k_is | rfl)
    (case k15 => first | k_is | rfl)
    (case a16 => first | k_is | rfl)
    (case l16 => first | k_is | rfl)
    (case c16 => first | k_is | rfl)
    (case k16 => first | k_is | rfl)
    (case a17 => first | k_is | rfl)
    (case l17 => first | k_is | rfl)
    (case c17 => first | k_is | rfl)
    (case k17 => first | k_is | rfl)
    (case a18 => first | k_is | rfl)
    (case l18 => first | k_is | rfl)
    (case c18 => first | k_is | rfl)
    (case k18 => first | k_is | rfl)
    (case a19 => first | k_is | rfl)
    (case l19 => first | k_is | rfl)
    (case c19 => first | k_is | rfl)
    (case k19 => first | k_is | rfl)
    (case a20 => first | k_is | rfl)
    (case l20 => first | k_is | rfl)
    (case c20 => first | k_is | rfl)
    (case k20 => first | k_is | rfl)
    (case a21 => first | k_is | rfl)
    (case l21 => first | k_is | rfl)
    (case c21 => first | k_is | rfl)
    (case k21 => first | k_is | rfl)
    (case a22 => first | k_is | rfl)
    (case l22 => first | k_is | rfl)
    (case c22 => first | k_is | rfl)
    (case k22 => first | k_is | rfl)
    (case a23 => first | k_is | rfl)
    (case i23 => first | k_is | rfl)
    (case l23 => first | k_is | rfl)
    (case c23 => first | k_is | rfl)
    (case k23 => first | k_is | rfl)
    (case a24 => first | k_is | rfl)
    (case i24 => first | k_is | rfl)
    (case l24 => first | k_is | rfl)
    (case c24 => first | k_is | rfl)
    (case k24 => first | k_is | rfl)
    (case a25 => first | k_is | rfl)
    (case l25 => first | k_is | rfl)
    (case c25 => first | k_is | rfl)
    (case k25 => first | k_is | rfl)
    (case a26 => first | k_is | rfl)
    (case l26 => first | k_is | rfl)
    (case c26 => first | k_is | rfl)
    (case k26 => first | k_is | rfl)
    (case a27 => first | k_is | rfl)
    (case l27 => first | k_is | rfl)
    (case c27 => first | k_is | rfl)
    (case k27 => first | k_is | rfl)
    (case a28 => first | k_is | rfl)
    (case l28 => first | k_is | rfl)
    (case c28 => first | k_is | rfl)
    (case k28 => first | k_is | rfl)
    (case a29 => first | k_is | rfl)
    (case l29 => first | k_is | rfl)
    (case c29 => first | k_is | rfl)
    (case k29 => first | k_is | rfl)
    (case a30 => first | k_is | rfl)
    (case l30 => first | k_is | rfl)
    (case c30 => first | k_is | rfl)
    (case k30 => first | k_is | rfl)
    (case a31 => first | k_is | rfl)
    (case l31 => first | k_is | rfl)
    (case c31 => first | k_is | rfl)
    (case k31 => first | k_is | rfl)
    (case a32 => first | k_is | rfl)
    (case l32 => first | k_is | rfl)
    (case c32 => first | k_is | rfl)
    (case k32 => first | k_is | rfl)
    (case a33 => first | k_is | rfl)
    (case l33 => first | k_is | rfl)
    (case c33 => first | k_is | rfl)
    (case k33 => first | k_is | rfl)
    (case a34 => first | k_is | rfl)
    (case l34 => first | k_is | rfl)
    (case c34 => first | k_is | rfl)
    (case k34 => first | k_is | rfl)
    (case a35 => first | k_is | rfl)
    (case l35 => first | k_is | rfl)
    (case c35 => first | k_is | rfl)
    (case k35 => first | k_is | rfl)
    (case a36 => first | k_is | rfl)
    (case l36 => first | k_is | rfl)
    (case c36 => first | k_is | rfl)
    (case k36 => first | k_is | rfl)
    (case xL0 => first | k_is | rfl)
    (case sa0 => first | k_is | rfl)
    (case ga0 => first | k_is | rfl)
    (case gg0 => first | k_is | rfl)
    (case kC0 => first | k_is | rfl)
    (case eC0 => first | k_is | rfl)
    (case tC0 => first | k_is | rfl)
    (case hC0 => first | k_is | rfl)
    (case sC0 => first | k_is | rfl)
    (case xL1 => first | k_is | rfl)
    (case sa1 => first | k_is | rfl)
    (case ga1 => first | k_is | rfl)
    (case gg1 => first | k_is | rfl)
    (case kC1 => first | k_is | rfl)
    (case eC1 => first | k_is | rfl)
    (case tC1 => first | k_is | rfl)
    (case hC1 => first | k_is | rfl)
    (case sC1 => first | k_is | rfl)
    (case sC1_0 => first | k_is | rfl)
    (case no1_value => first | k_is | rfl)
    (case xL2 => first | k_is | rfl)
    (case sa2 => first | k_is | rfl)
    (case ga2 => first | k_is | rfl)
    (case gg2 => first | k_is | rfl)
    (case kC2 => first | k_is | rfl)
    (case eC2 => first | k_is | rfl)
    (case tC2 => first | k_is | rfl)
    (case hC2 => first | k_is | rfl)
    (case sC2 => first | k_is | rfl)
    (case sC2_0 => first | k_is | rfl)
    (case no2_value => first | k_is | rfl)
    (case xL3 => first | k_is | rfl)
    (case sa3 => first | k_is | rfl)
    (case ga3 => first | k_is | rfl)
    (case gg3 => first | k_is | rfl)
    (case kC3 => first | k_is | rfl)
    (case eC3 => first | k_is | rfl)
    (case tC3 => first | k_is | rfl)
    (case hC3 => first | k_is | rfl)
    (case sC3 => first | k_is | rfl)
    (case sC3_0 => first | k_is | rfl)
    (case no3_what => first | k_is | rfl)
    (case pg4 => first | k_is | rfl)
    (case hd4 => first | k_is | rfl)
    (case po4 => first | k_is | rfl)
    (case sb4 => first | k_is | rfl)
    (case mk4 => first | k_is | rfl)
    (case kc4 => first | k_is | rfl)
    (case ha4 => first | k_is | rfl)
    (case hn4 => first | k_is | rfl)
    (case ht4 => first | k_is | rfl)
    (case hm4 => first | k_is | rfl)
    (case kt4_tuple => first | k_is | rfl)
    (case no4_size => first | k_is | rfl)
    (case no4_ties => first | k_is | rfl)
    (case aK0 => first | k_is | rfl)
    (case lK0 => first | k_is | rfl)
    (case nb_abs => first | k_is | rfl)
    (case nb_len => first | k_is | rfl)
    (case nb_range => first | k_is | rfl)
    (case nb_int => first | k_is | rfl)
    (case nb_str => first | k_is | rfl)
    (case nb_isinstance => first | k_is | rfl)
    (case nb_tuple => first | k_is | rfl)
    (case nb_list => first | k_is | rfl)
    (case nb_all => first | k_is | rfl)
    (case nb_bool => first | k_is | rfl)
    (case nb_ValueError => first | k_is | rfl)
