import PyProof.Rows.All
import Wide.All
import OpenK.AllK
import Wide.FinOn
import HandS.ForMost
import HandS.ForExc
import HandS.ExcInit
import HandS.ExcField
import HandS.ExcIs
import HandS.IsInst
import HandS.Flow
import HandS.Wide
import HandS.Conv
import HandS.Evl
import HandS.TupAny
import HandS.Zip
import HandS.More
import HandS.List
import HandS.ExcCtx
import HandS.HotCalls
import HandS.ExcInitHot
import HandS.SuiteRaise
import HandS.TupMul
import HandS.Text
import HandS.WideBits
import PySem.Challenge.RW_mirrorcounts_k38_directions_judged
set_option Elab.async false
set_option linter.all false
set_option maxRecDepth 100000
set_option maxHeartbeats 4000000
/-! Dl: a logic of plain data over the hand layer. G: what never changes any more; H: all that is tracked. -/
namespace Dl
open PySem L2
open Evl (Ex)
/-- plain data -/
inductive D where
  | non | bl (b : Bool) | int (i : Int) | str (x : Str) | tup (ds : List D) | lst (ds : List D) | obj (C : Addr) (fs : List (Str × D)) | ptr (a : Addr) | err (a dd : Addr) (f : Str) (d : D) | dct (kvs : List (Key × D))
mutual
inductive Rep (K : PySem.W.Frag) (G : Hp) : V → D → Prop
  | non : Rep K G .non .non
  | bl (b : Bool) : Rep K G (.bl b) (.bl b)
  | int (i : Int) : Rep K G (.int i) (.int i)
  | str (x : Str) : Rep K G (.str x) (.str x)
  | tup {a : Addr} {xs : List V} {ds : List D} (h : SqT K G a xs) (hs : RepL K G xs ds) : Rep K G (.ref a) (.tup ds)
  | lst {a : Addr} {xs : List V} {ds : List D} (h : SqL K G a xs) (hs : RepL K G xs ds) : Rep K G (.ref a) (.lst ds)
  | obj {a C dx : Addr} {gs : List (Str × V)} {fs : List (Str × D)} (h : G a = some (.ins C dx gs)) (hs : RepF K G gs fs) : Rep K G (.ref a) (.obj C fs)
  | ptr (a : Addr) : Rep K G (.ref a) (.ptr a)
  | err {a dd : Addr} {f : Str} {v : V} {d : D} (h : G dd = some (.xd [(f, v)])) (hs : Rep K G v d) : Rep K G (.ref a) (.err a dd f d)
  | dct {a : Addr} {ws : List (Key × V)} {kvs : List (Key × D)} (h : G a = some (.dK ws)) (hs : RepK K G ws kvs) : Rep K G (.ref a) (.dct kvs)
inductive RepL (K : PySem.W.Frag) (G : Hp) : List V → List D → Prop
  | nil : RepL K G [] []
  | cons {v : V} {d : D} {vs : List V} {ds : List D} (h : Rep K G v d) (hs : RepL K G vs ds) : RepL K G (v :: vs) (d :: ds)
inductive RepF (K : PySem.W.Frag) (G : Hp) : List (Str × V) → List (Str × D) → Prop
  | nil : RepF K G [] []
  | cons {f : Str} {v : V} {d : D} {vs : List (Str × V)} {ds : List (Str × D)} (h : Rep K G v d) (hs : RepF K G vs ds) : RepF K G ((f, v) :: vs) ((f, d) :: ds)
inductive RepK (K : PySem.W.Frag) (G : Hp) : List (Key × V) → List (Key × D) → Prop
  | nil : RepK K G [] []
  | cons {f : Key} {v : V} {d : D} {vs : List (Key × V)} {ds : List (Key × D)} (h : Rep K G v d) (hs : RepK K G vs ds) : RepK K G ((f, v) :: vs) ((f, d) :: ds)
end
section
variable {K : PySem.W.Frag} {G G' : Hp}
mutual
theorem Rep.mono (e : Ex G G') : ∀ {v : V} {d : D}, Rep K G v d → Rep K G' v d
  | _, _, .non => .non
  | _, _, .bl b => .bl b
  | _, _, .int i => .int i
  | _, _, .str x => .str x
  | _, _, .tup h hs => .tup (Evl.ex_t e h) (RepL.mono e hs)
  | _, _, .lst h hs => .lst (Evl.ex_l e h) (RepL.mono e hs)
  | _, _, .obj h hs => .obj (e _ _ h) (RepF.mono e hs)
  | _, _, .ptr a => .ptr a
  | _, _, .err h hs => .err (e _ _ h) (Rep.mono e hs)
  | _, _, .dct h hs => .dct (e _ _ h) (RepK.mono e hs)
theorem RepL.mono (e : Ex G G') : ∀ {vs : List V} {ds : List D}, RepL K G vs ds → RepL K G' vs ds
  | _, _, .nil => .nil
  | _, _, .cons h hs => .cons (Rep.mono e h) (RepL.mono e hs)
theorem RepF.mono (e : Ex G G') : ∀ {vs : List (Str × V)} {ds : List (Str × D)}, RepF K G vs ds → RepF K G' vs ds
  | _, _, .nil => .nil
  | _, _, .cons h hs => .cons (Rep.mono e h) (RepF.mono e hs)
theorem RepK.mono (e : Ex G G') : ∀ {vs : List (Key × V)} {ds : List (Key × D)}, RepK K G vs ds → RepK K G' vs ds
  | _, _, .nil => .nil
  | _, _, .cons h hs => .cons (Rep.mono e h) (RepK.mono e hs)
end
theorem RepL.length : ∀ {vs : List V} {ds : List D}, RepL K G vs ds → vs.length = ds.length
  | _, _, .nil => rfl
  | _, _, .cons _ hs => congrArg (· + 1) (RepL.length hs)
theorem RepL.get : ∀ {vs : List V} {ds : List D} {i : Nat} {v : V}, RepL K G vs ds → vs[i]? = some v → ∃ d, ds[i]? = some d ∧ Rep K G v d
  | _, _, i, v, .nil, e => by simp at e
  | _, _, 0, v, .cons h _, e => by
    simp at e
    subst e
    exact ⟨_, rfl, h⟩
  | _, _, i + 1, v, .cons _ hs, e => by
    obtain ⟨d, h1, h2⟩ := RepL.get (i := i) (v := v) hs (by simpa using e)
    exact ⟨d, by simpa using h1, h2⟩
theorem RepL.getD : ∀ {vs : List V} {ds : List D} {i : Nat} {d : D}, RepL K G vs ds → ds[i]? = some d → ∃ v, vs[i]? = some v ∧ Rep K G v d
  | _, _, i, d, .nil, e => by simp at e
  | _, _, 0, d, .cons h _, e => by
    simp at e
    subst e
    exact ⟨_, rfl, h⟩
  | _, _, i + 1, d, .cons _ hs, e => by
    obtain ⟨v, h1, h2⟩ := RepL.getD (i := i) (d := d) hs (by simpa using e)
    exact ⟨v, by simpa using h1, h2⟩
theorem RepL.append : ∀ {vs ws : List V} {ds es : List D}, RepL K G vs ds → RepL K G ws es → RepL K G (vs ++ ws) (ds ++ es)
  | _, _, _, _, .nil, s => s
  | _, _, _, _, .cons h hs, s => .cons h (RepL.append hs s)
theorem RepL.set {v : V} {d : D} (r : Rep K G v d) : ∀ {vs : List V} {ds : List D} (i : Nat), RepL K G vs ds → RepL K G (vs.set i v) (ds.set i d)
  | _, _, _, .nil => .nil
  | _, _, 0, .cons _ hs => .cons r hs
  | _, _, i + 1, .cons h hs => .cons h (RepL.set r i hs)
theorem RepL.ints : ∀ {vs : List V} {ns : List Int}, RepL K G vs (ns.map D.int) → vs = ns.map V.int
  | _, [], .nil => rfl
  | _, n :: ns, .cons h hs => by
    cases h
    rw [RepL.ints hs, List.map_cons]
theorem RepL.ofInts : ∀ (ns : List Int), RepL K G (ns.map V.int) (ns.map D.int)
  | [] => .nil
  | n :: ns => .cons (.int n) (RepL.ofInts ns)
theorem RepL.bls : ∀ {vs : List V} {ns : List Bool}, RepL K G vs (ns.map D.bl) → vs = ns.map V.bl
  | _, [], .nil => rfl
  | _, n :: ns, .cons h hs => by
    cases h
    rw [RepL.bls hs, List.map_cons]
theorem look_put {α : Type} (f g : Str) (y : α) (fs : List (Str × α)) : ((f, y) :: fs).lookup g = if g = f then some y else fs.lookup g := by
  by_cases h : g = f
  · subst h
    simp [List.lookup]
  · have e : (g == f) = false := by simpa using h
    rw [if_neg h]
    simp [List.lookup, e]
theorem RepF.look : ∀ {vs : List (Str × V)} {ds : List (Str × D)} {f : Str} {d : D}, RepF K G vs ds → ds.lookup f = some d → ∃ v, vs.lookup f = some v ∧ Rep K G v d
  | _, _, f, d, .nil, e => by cases e
  | _, _, f, d, .cons (f := g) (v := v) (vs := vs) h hs, e => by
    rw [look_put] at e
    rw [look_put]
    by_cases hf : f = g
    · rw [if_pos hf] at e ⊢
      cases e
      exact ⟨v, rfl, h⟩
    · rw [if_neg hf] at e ⊢
      exact RepF.look hs e
end
/-- what is in an object that a slot alone holds -/
inductive Ct where
  | lst (ds : List D) | obj (C : Addr) (fs : List (Str × D)) | dct (kvs : List (Key × D))
inductive RepC (K : PySem.W.Frag) (G : Hp) : HO → Ct → Prop
  | lst {xs : List V} {ds : List D} (h : RepL K G xs ds) : RepC K G (.lst xs) (.lst ds)
  | obj {C dx : Addr} {gs : List (Str × V)} {fs : List (Str × D)} (h : RepF K G gs fs) : RepC K G (.ins C dx gs) (.obj C fs)
  | dct {ws : List (Key × V)} {kvs : List (Key × D)} (h : RepK K G ws kvs) : RepC K G (.dK ws) (.dct kvs)
theorem RepC.mono {K : PySem.W.Frag} {G G' : Hp} (e : Ex G G') {o : HO} {c : Ct} : RepC K G o c → RepC K G' o c
  | .lst h => .lst (h.mono e)
  | .obj h => .obj (h.mono e)
  | .dct h => .dct (h.mono e)
/-- frozen -/
@[reducible] def Ct.d : Ct → D
  | .lst ds => .lst ds
  | .obj C fs => .obj C fs
  | .dct kvs => .dct kvs
theorem RepC.rep {K : PySem.W.Frag} {G : Hp} {o : HO} {c : Ct} {a : Addr} (h : RepC K G o c) (e : G a = some o) : Rep K G (.ref a) c.d := by
  cases h with
  | lst h => exact .lst (SqL.of e) h
  | obj h => exact .obj e h
  | dct h => exact .dct e h
/-- what a slot holds: data that never changes; an object that the slot alone holds -/
inductive B where
  | fz (d : D) | ow (c : Ct)
abbrev Env := List (Option B)
/-- what a law draws from: where it stands, what it is made of, what holds of it -/
structure Rsc where
  w : Addr
  F : Addr → Prop
  I : Hp → Prop
  st : ∀ H H', I H → (∀ a, F a → H' a = H a) → I H'
  dom : ∀ H a, I H → F a → H a ≠ none
def Rsc.no : Rsc := ⟨0, fun _ => False, fun _ => True, fun _ _ _ _ => trivial, fun _ _ _ h => h.elim⟩
/-- the entry of a def: what never changes, what is tracked, what may change (the resource), the wish of exceptions -/
structure Ctx where
  K : PySem.W.Frag
  G : Hp
  H : Hp
  R : Rsc
  /-- cells that stand as they are -/
  X : List (Addr × HO)
def own (σ : St) (ρ : Env) (i : Nat) (a : Addr) : Prop := σ[i]? = some (some (.ref a)) ∧ ∃ ds, ρ[i]? = some (some (.ow ds))
def BV (Γ : Ctx) (G H : Hp) (v : V) : B → Prop
  | .fz d => Rep Γ.K G v d
  | .ow ds => ∃ a xs, v = .ref a ∧ H a = some xs ∧ RepC Γ.K G xs ds ∧ G a = none ∧ ¬ Γ.R.F a ∧ Γ.H a = none
structure Ok (Γ : Ctx) (G H : Hp) (σ : St) (ρ : Env) : Prop where
  gh : Ex G H
  g0 : Ex Γ.G G
  nw : ∀ a, Γ.G a = none → Γ.H a ≠ none → G a = none
  fr : ∀ a o, ¬ Γ.R.F a → Γ.H a = some o → H a = some o
  dm : ∀ a, Γ.H a ≠ none → H a ≠ none
  res : Γ.R.I H
  rg : ∀ a, Γ.R.F a → G a = none
  len : σ.length = ρ.length
  var : ∀ (i : Nat) (b : B), ρ[i]? = some (some b) → ∃ v, σ[i]? = some (some v) ∧ BV Γ G H v b
  dj : ∀ (i j : Nat) (a : Addr), own σ ρ i a → own σ ρ j a → i = j
  cel : ∀ p ∈ Γ.X, H p.1 = some p.2 ∧ G p.1 = none ∧ ¬ Γ.R.F p.1
  nx : ∀ (i : Nat) (a : Addr), own σ ρ i a → ∀ p ∈ Γ.X, p.1 ≠ a
/-- a result that is held by no slot -/
def BR (Γ : Ctx) (G H : Hp) (σ : St) (ρ : Env) (v : V) (b : B) : Prop := BV Γ G H v b ∧ ∀ ds, b = .ow ds → ∀ a, v = .ref a → (∀ i, ¬ own σ ρ i a) ∧ ∀ p ∈ Γ.X, p.1 ≠ a
section
variable {Γ : Ctx} {G G' H H' : Hp} {σ : St} {ρ : Env}
theorem own_in {i : Nat} {a : Addr} (k : Ok Γ G H σ ρ) (h : own σ ρ i a) : ∃ xs, H a = some xs ∧ G a = none ∧ ¬ Γ.R.F a ∧ Γ.H a = none := by
  obtain ⟨h1, ds, h2⟩ := h
  obtain ⟨v, h3, a', xs, rfl, h4, _, h5, h6, h7⟩ := k.var i _ h2
  rw [h1] at h3
  cases h3
  exact ⟨xs, h4, h5, h6, h7⟩
theorem BV.mono {v : V} {b : B} (h : BV Γ G H v b) (e : Ex G G') (hg : ∀ a, H a ≠ none → G a = none → G' a = none) (hh : ∀ a xs, H a = some xs → ¬ Γ.R.F a → G a = none → Γ.H a = none → H' a = some xs) : BV Γ G' H' v b := by
  cases b with
  | fz d => exact Rep.mono e h
  | ow ds =>
    obtain ⟨a, xs, rfl, h1, h2, h3, h4, h5⟩ := h
    exact ⟨a, xs, rfl, hh a xs h1 h4 h3 h5, RepC.mono e h2, hg a (by rw [h1]; simp) h3, h4, h5⟩
/-- G and H grow; the slots' own lists stand -/
theorem Ok.grow (k : Ok Γ G H σ ρ) (gg : Ex G G') (gh : Ex G' H') (nw : ∀ a, G a = none → H a ≠ none → G' a = none) (fr : ∀ a o, ¬ Γ.R.F a → H a = some o → H' a = some o) (dm : ∀ a, H a ≠ none → H' a ≠ none) (res : Γ.R.I H') (rg : ∀ a, Γ.R.F a → G' a = none) : Ok Γ G' H' σ ρ where
  gh := gh
  g0 := k.g0.trans gg
  nw := fun a h1 h2 => nw a (k.nw a h1 h2) (k.dm a h2)
  fr := fun a o h1 h2 => fr a o h1 (k.fr a o h1 h2)
  dm := fun a h => dm a (k.dm a h)
  res := res
  rg := rg
  len := k.len
  var := fun i b h => by
    obtain ⟨v, h1, h2⟩ := k.var i b h
    exact ⟨v, h1, h2.mono gg (fun a h3 h4 => nw a h4 h3) fun a xs h3 h4 _ _ => fr a _ h4 h3⟩
  dj := k.dj
  cel := fun p hp => by
    obtain ⟨h1, h2, h3⟩ := k.cel p hp
    exact ⟨fr _ _ h3 h1, nw _ h2 (by rw [h1]; simp), h3⟩
  nx := k.nx
/-- a new object, frozen -/
theorem Ok.new (k : Ok Γ G H σ ρ) {p : Addr} {o : HO} (hp : H p = none) : Ok Γ (upd G p o) (upd H p o) σ ρ ∧ Ex G (upd G p o) := by
  have hG : G p = none := Evl.fresh_back k.gh hp
  have hF : ∀ a, Γ.R.F a → a ≠ p := fun a h e => k.rg a h |> fun _ => (Γ.R.dom H a k.res h) (by rw [e]; exact hp)
  have gg := Ex.new (o := o) hG
  refine ⟨k.grow gg (fun a u h => ?_) (fun a h1 h2 => ?_) (fun a u _ h => ?_) (fun a h => ?_) (Γ.R.st H _ k.res fun a h => upd_ne (hF a h)) fun a h => by rw [upd_ne (hF a h)]; exact k.rg a h, gg⟩
  · by_cases e : a = p
    · subst e
      rw [upd_same] at h ⊢
      exact h
    · rw [upd_ne e] at h ⊢
      exact k.gh a u h
  · rw [upd_ne (fun e => h2 (by rw [e]; exact hp))]
    exact h1
  · rw [upd_ne (ne_of_none h hp)]
    exact h
  · by_cases e : a = p
    · rw [e, upd_same]
      simp
    · rw [upd_ne e]
      exact h
/-- a new object that is not frozen -/
theorem Ok.newO (k : Ok Γ G H σ ρ) {p : Addr} {o : HO} (hp : H p = none) : Ok Γ G (upd H p o) σ ρ := by
  have hF : ∀ a, Γ.R.F a → a ≠ p := fun a h e => (Γ.R.dom H a k.res h) (by rw [e]; exact hp)
  refine k.grow (Ex.refl G) (fun a u h => ?_) (fun a h1 _ => h1) (fun a u _ h => ?_) (fun a h => ?_) (Γ.R.st H _ k.res fun a h => upd_ne (hF a h)) k.rg
  · rw [upd_ne (ne_of_none (k.gh a u h) hp)]
    exact k.gh a u h
  · rw [upd_ne (ne_of_none h hp)]
    exact h
  · by_cases e : a = p
    · rw [e, upd_same]
      simp
    · rw [upd_ne e]
      exact h
/-- a slot's own list is changed -/
theorem Ok.mut (k : Ok Γ G H σ ρ) {i : Nat} {a : Addr} {ds ds' : Ct} {xs' : HO} (hi : ρ[i]? = some (some (.ow ds))) (ha : σ[i]? = some (some (.ref a))) (hr : RepC Γ.K G xs' ds') : Ok Γ G (upd H a xs') σ (ρ.set i (some (.ow ds'))) := by
  have ho : own σ ρ i a := ⟨ha, ds, hi⟩
  obtain ⟨xs, e1, e2, e3, e4⟩ := own_in k ho
  have nG : ∀ b o, G b = some o → b ≠ a := fun b o h e => by rw [e, e2] at h; cases h
  have hlt : i < ρ.length := (List.getElem?_eq_some_iff.mp hi).1
  have back : ∀ j c, own σ (ρ.set i (some (.ow ds'))) j c → own σ ρ j c := fun j c ⟨p, es, q⟩ => by
    by_cases hj : j = i
    · subst hj
      exact ⟨p, ds, hi⟩
    · rw [List.getElem?_set_ne (Ne.symm hj)] at q
      exact ⟨p, es, q⟩
  refine ⟨fun b o h => by rw [upd_ne (nG b o h)]; exact k.gh b o h, k.g0, k.nw, fun b o h1 h2 => ?_, fun b h => ?_, Γ.R.st H _ k.res fun b h => upd_ne fun e => e3 (e ▸ h), k.rg, by rw [List.length_set]; exact k.len, fun j b h => ?_, fun j l c h1 h2 => k.dj j l c (back j c h1) (back l c h2), fun p hp => ?_, fun j c h => k.nx j c (back j c h)⟩
  · rw [upd_ne fun e => by rw [e, e4] at h2; cases h2]
    exact k.fr b o h1 h2
  · by_cases e : b = a
    · rw [e, upd_same]
      simp
    · rw [upd_ne e]
      exact k.dm b h
  · by_cases hj : j = i
    · subst hj
      rw [List.getElem?_set_self hlt] at h
      cases h
      exact ⟨_, ha, a, xs', rfl, upd_same, hr, e2, e3, e4⟩
    · rw [List.getElem?_set_ne (Ne.symm hj)] at h
      obtain ⟨v, h1, h2⟩ := k.var j b h
      refine ⟨v, h1, ?_⟩
      cases b with
      | fz d => exact h2
      | ow es =>
        obtain ⟨c, ys, rfl, g1, g2, g3, g4, g5⟩ := h2
        have hc : c ≠ a := fun e => hj (k.dj j i a ⟨by rw [h1, e], es, h⟩ ho)
        exact ⟨c, ys, rfl, by rw [upd_ne hc]; exact g1, g2, g3, g4, g5⟩
  · obtain ⟨h1, h2, h3⟩ := k.cel p hp
    exact ⟨by rw [upd_ne (k.nx i a ho p hp)]; exact h1, h2, h3⟩
/-- a slot is stored -/
theorem Ok.store (k : Ok Γ G H σ ρ) {i : Nat} {v : V} {b : B} (hb : BR Γ G H σ ρ v b) : Ok Γ G H (σ.set i (some v)) (ρ.set i (some b)) := by
  refine ⟨k.gh, k.g0, k.nw, k.fr, k.dm, k.res, k.rg, by rw [List.length_set, List.length_set]; exact k.len, fun j c h => ?_, fun j l c h1 h2 => ?_, k.cel, fun j c h => ?_⟩
  · by_cases hj : j = i
    · subst hj
      have hlt : j < ρ.length := by
        have := (List.getElem?_eq_some_iff.mp h).1
        rwa [List.length_set] at this
      rw [List.getElem?_set_self hlt] at h
      cases h
      exact ⟨v, List.getElem?_set_self (by rw [k.len]; exact hlt), hb.1⟩
    · rw [List.getElem?_set_ne (Ne.symm hj)] at h ⊢
      exact k.var j c h
  · have get : ∀ j c, own (σ.set i (some v)) (ρ.set i (some b)) j c → (j = i ∧ v = .ref c ∧ ∃ ds, b = .ow ds) ∨ (j ≠ i ∧ own σ ρ j c) := fun j c ⟨p, es, q⟩ => by
      by_cases hj : j = i
      · subst hj
        have hlt : j < ρ.length := by
          have := (List.getElem?_eq_some_iff.mp q).1
          rwa [List.length_set] at this
        rw [List.getElem?_set_self hlt] at q
        rw [List.getElem?_set_self (by rw [k.len]; exact hlt)] at p
        cases q
        cases p
        exact .inl ⟨rfl, rfl, es, rfl⟩
      · rw [List.getElem?_set_ne (Ne.symm hj)] at p q
        exact .inr ⟨hj, p, es, q⟩
    rcases get j c h1 with ⟨rfl, hv, ds, hd⟩ | ⟨n1, o1⟩
    · rcases get l c h2 with ⟨rfl, _, _⟩ | ⟨n2, o2⟩
      · rfl
      · exact absurd o2 ((hb.2 ds hd c hv).1 l)
    · rcases get l c h2 with ⟨rfl, hv, ds, hd⟩ | ⟨n2, o2⟩
      · exact absurd o1 ((hb.2 ds hd c hv).1 j)
      · exact k.dj j l c o1 o2
  · obtain ⟨p, es, q⟩ := h
    by_cases hj : j = i
    · subst hj
      have hlt : j < ρ.length := by
        have := (List.getElem?_eq_some_iff.mp q).1
        rwa [List.length_set] at this
      rw [List.getElem?_set_self hlt] at q
      rw [List.getElem?_set_self (by rw [k.len]; exact hlt)] at p
      cases q
      cases p
      exact (hb.2 es rfl c rfl).2
    · rw [List.getElem?_set_ne (Ne.symm hj)] at p q
      exact k.nx j c ⟨p, es, q⟩
theorem BR.fz {v : V} {d : D} (h : Rep Γ.K G v d) : BR Γ G H σ ρ v (.fz d) := ⟨h, fun _ e => by cases e⟩
/-- slots are forgotten -/
theorem Ok.weak (k : Ok Γ G H σ ρ) {ρ' : Env} (hl : ρ'.length = ρ.length) (hs : ∀ (i : Nat) (b : B), ρ'[i]? = some (some b) → ρ[i]? = some (some b)) : Ok Γ G H σ ρ' :=
  ⟨k.gh, k.g0, k.nw, k.fr, k.dm, k.res, k.rg, k.len.trans hl.symm, fun i b h => k.var i b (hs i b h), fun i j a ⟨p, ds, q⟩ ⟨p', es, q'⟩ => k.dj i j a ⟨p, ds, hs _ _ q⟩ ⟨p', es, hs _ _ q'⟩, k.cel, fun i a ⟨p, ds, q⟩ => k.nx i a ⟨p, ds, hs _ _ q⟩⟩
/-- a slot's own list is frozen -/
theorem Ok.freeze (k : Ok Γ G H σ ρ) {i : Nat} {a : Addr} {ds : Ct} (hi : ρ[i]? = some (some (.ow ds))) (ha : σ[i]? = some (some (.ref a))) : ∃ G', Ex G G' ∧ Ok Γ G' H σ (ρ.set i (some (.fz ds.d))) ∧ Rep Γ.K G' (.ref a) ds.d := by
  obtain ⟨v, h1, a', xs, rfl, g1, g2, g3, g4, g5⟩ := k.var i _ hi
  rw [ha] at h1
  cases h1
  have gg : Ex G (upd G a xs) := Ex.new g3
  have hlt : i < ρ.length := (List.getElem?_eq_some_iff.mp hi).1
  have rp : Rep Γ.K (upd G a xs) (.ref a) ds.d := (RepC.mono gg g2).rep upd_same
  have back : ∀ j c, own σ (ρ.set i (some (.fz ds.d))) j c → own σ ρ j c := fun j c ⟨p, es, q⟩ => by
    by_cases hj : j = i
    · subst hj
      rw [List.getElem?_set_self hlt] at q
      cases q
    · rw [List.getElem?_set_ne (Ne.symm hj)] at q
      exact ⟨p, es, q⟩
  refine ⟨_, gg, ⟨fun b o h => ?_, k.g0.trans gg, fun b h1 h2 => ?_, k.fr, k.dm, k.res, fun b h => by rw [upd_ne fun e => g4 (by rw [← e]; exact h)]; exact k.rg b h, by rw [List.length_set]; exact k.len, fun j b h => ?_, fun j l c h1 h2 => k.dj j l c (back j c h1) (back l c h2), fun p hp => ?_, fun j c h => k.nx j c (back j c h)⟩, rp⟩
  · by_cases e : b = a
    · subst e
      rw [upd_same] at h
      cases h
      exact g1
    · rw [upd_ne e] at h
      exact k.gh b o h
  · rw [upd_ne fun e => h2 (by rw [e]; exact g5)]
    exact k.nw b h1 h2
  · by_cases hj : j = i
    · subst hj
      rw [List.getElem?_set_self hlt] at h
      cases h
      exact ⟨_, ha, rp⟩
    · rw [List.getElem?_set_ne (Ne.symm hj)] at h
      obtain ⟨v, h1, h2⟩ := k.var j b h
      refine ⟨v, h1, ?_⟩
      cases b with
      | fz d => exact Rep.mono gg h2
      | ow es =>
        obtain ⟨c, ys, rfl, q1, q2, q3, q4, q5⟩ := h2
        have hc : c ≠ a := fun e => hj (k.dj j i a ⟨by rw [h1, e], es, h⟩ ⟨ha, ds, hi⟩)
        exact ⟨c, ys, rfl, q1, RepC.mono gg q2, by rw [upd_ne hc]; exact q3, q4, q5⟩
  · obtain ⟨h1, h2, h3⟩ := k.cel p hp
    exact ⟨h1, by rw [upd_ne (k.nx i a ⟨ha, ds, hi⟩ p hp)]; exact h2, h3⟩
end

/-! ### the judgements -/
/-- an expression: a frozen result; any result; a test; arguments -/
def EW (Γ : Ctx) (te : TE) (ρ : Env) (Φ : D → Env → Prop) : Prop := ∀ σ G H (Q : VK), Ok Γ G H σ ρ → (∀ d ρ' v G' H', Ex G G' → Ok Γ G' H' σ ρ' → Rep Γ.K G' v d → Φ d ρ' → Q v H') → te σ H Q
def EB (Γ : Ctx) (te : TE) (ρ : Env) (Φ : B → Env → Prop) : Prop := ∀ σ G H (Q : VK), Ok Γ G H σ ρ → (∀ b ρ' v G' H', Ex G G' → Ok Γ G' H' σ ρ' → BR Γ G' H' σ ρ' v b → Φ b ρ' → Q v H') → te σ H Q
def TW (Γ : Ctx) (tt : TT) (ρ : Env) (Φ : Bool → Env → Prop) : Prop := ∀ σ G H (Q : Bool → Hp → Prop), Ok Γ G H σ ρ → (∀ b ρ' G' H', Ex G G' → Ok Γ G' H' σ ρ' → Φ b ρ' → Q b H') → tt σ H Q
def AW (Γ : Ctx) (ta : TA) (ρ : Env) (Φ : List D → Env → Prop) : Prop := ∀ σ G H (Q : List V → Hp → Prop), Ok Γ G H σ ρ → (∀ ds ρ' vs G' H', Ex G G' → Ok Γ G' H' σ ρ' → RepL Γ.K G' vs ds → Φ ds ρ' → Q vs H') → ta σ H Q
/-- where statements end -/
structure Fin where
  nx : Env → Prop
  rt : B → Prop
  bk : Env → Prop
  ct : Env → Prop
  xr : Env → Addr → Str → D → Prop
def SW (Γ : Ctx) (ts : TS) (ρ : Env) (Δ : Fin) : Prop := ∀ σ G H (D : Ends), Ok Γ G H σ ρ →
  (∀ ρ' σ' G' H', Ex G G' → Ok Γ G' H' σ' ρ' → Δ.nx ρ' → D.nx σ' H') → (∀ b v σ' ρ' G' H', Ok Γ G' H' σ' ρ' → BR Γ G' H' σ' ρ' v b → Δ.rt b → D.rt v H') →
  (∀ ρ' σ' G' H', Ex G G' → Ok Γ G' H' σ' ρ' → Δ.bk ρ' → D.bk σ' H') → (∀ ρ' σ' G' H', Ex G G' → Ok Γ G' H' σ' ρ' → Δ.ct ρ' → D.ct σ' H') → ts D σ H

section
variable {Γ : Ctx} {ρ : Env} {te ta tb tc : TE} {tt tu : TT} {Φ : D → Env → Prop} {Ψ : B → Env → Prop} {Θ : Bool → Env → Prop} {Λ : List D → Env → Prop}
theorem EW.eb (h : EW Γ te ρ fun d ρ' => Ψ (.fz d) ρ') : EB Γ te ρ Ψ := fun σ G H Q k q => h σ G H Q k fun d ρ' v G' H' e k' r p => q (.fz d) ρ' v G' H' e k' (.fz r) p
theorem ew_imp {Φ' : D → Env → Prop} (h : EW Γ te ρ Φ') (i : ∀ d ρ', Φ' d ρ' → Φ d ρ') : EW Γ te ρ Φ := fun σ G H Q k q => h σ G H Q k fun d ρ' v G' H' e k' r p => q d ρ' v G' H' e k' r (i d ρ' p)
theorem ew_var {i : Nat} {d : D} (h : ρ[i]? = some (some (.fz d))) (p : Φ d ρ) : EW Γ (tVar i) ρ Φ := fun σ G H Q k q => by
  obtain ⟨v, h1, h2⟩ := k.var i _ h
  exact ⟨v, h1, q d ρ v G H (Ex.refl G) k h2 p⟩
def ofV : V → D
  | .non => .non
  | .bl b => .bl b
  | .int i => .int i
  | .str x => .str x
  | _ => .non
def sc : V → Bool
  | .non => true
  | .bl _ => true
  | .int _ => true
  | .str _ => true
  | _ => false
theorem rep_ofV {K : PySem.W.Frag} {G : Hp} {v : V} (h : sc v = true) : Rep K G v (ofV v) := by
  cases v with
  | non => exact .non
  | bl b => exact .bl b
  | int i => exact .int i
  | str x => exact .str x
  | _ => exact absurd (show false = true from h) Bool.false_ne_true
theorem ew_int {i : Int} (p : Φ (.int i) ρ) : EW Γ (tC (.int i)) ρ Φ := fun σ G H Q k q => q _ ρ _ G H (Ex.refl G) k (.int i) p
theorem ew_bl {b : Bool} (p : Φ (.bl b) ρ) : EW Γ (tC (.bl b)) ρ Φ := fun σ G H Q k q => q _ ρ _ G H (Ex.refl G) k (.bl b) p
theorem ew_non (p : Φ .non ρ) : EW Γ (tC .non) ρ Φ := fun σ G H Q k q => q _ ρ _ G H (Ex.refl G) k .non p
theorem ew_str {x : Str} (p : Φ (.str x) ρ) : EW Γ (tC (.str x)) ρ Φ := fun σ G H Q k q => q _ ρ _ G H (Ex.refl G) k (.str x) p
/-- a constant of the module -/
theorem ew_ref {a : Addr} {xs : List V} {ds : List D} (h : ∀ H, SqT Γ.K H a xs) (hs : ∀ G, RepL Γ.K G xs ds) (p : Φ (.tup ds) ρ) : EW Γ (tC (.ref a)) ρ Φ := fun σ G H Q k q => q _ ρ _ G H (Ex.refl G) k (.tup (h G) (hs G)) p
/-- an operation on values that makes nothing -/
def OpV (Γ : Ctx) (r : R2) (x y z : D) : Prop := ∀ G H vx vy (Q : VK), Ex G H → Rep Γ.K G vx x → Rep Γ.K G vy y → (∀ v, Rep Γ.K G v z → Q v H) → r vx vy H Q
theorem ew_op {r : R2} (h : EW Γ ta ρ fun x ρ1 => EW Γ tb ρ1 fun y ρ2 => ∃ z, OpV Γ r x y z ∧ Φ z ρ2) : EW Γ (tOp r ta tb) ρ Φ := fun σ G H Q k q =>
  h σ G H _ k fun x ρ1 vx G1 H1 e1 k1 r1 h1 => h1 σ G1 H1 _ k1 fun y ρ2 vy G2 H2 e2 k2 r2 ⟨z, h2, p⟩ =>
    h2 G2 H2 vx vy Q k2.gh (r1.mono e2) r2 fun v rv => q z ρ2 v G2 H2 (e1.trans e2) k2 rv p
theorem opv_int {g : Int → Int → Int} {i j : Int} : OpV Γ (rI0 fun i j => .int (g i j)) (.int i) (.int j) (.int (g i j)) := fun G H vx vy Q e hx hy q => by
  cases hx
  cases hy
  exact ⟨i, j, rfl, rfl, q _ (.int _)⟩
theorem opv_intC {C : Int → Int → Prop} {g : Int → Int → Int} {i j : Int} (c : C i j) : OpV Γ (rI C fun i j => .int (g i j)) (.int i) (.int j) (.int (g i j)) := fun G H vx vy Q e hx hy q => by
  cases hx
  cases hy
  exact ⟨i, j, rfl, rfl, c, q _ (.int _)⟩
theorem opv_cmp {g : Int → Int → Bool} {i j : Int} : OpV Γ (rI0 fun i j => .bl (g i j)) (.int i) (.int j) (.bl (g i j)) := fun G H vx vy Q e hx hy q => by
  cases hx
  cases hy
  exact ⟨i, j, rfl, rfl, q _ (.bl _)⟩
theorem dec_int {i j : Int} : decide (V.int i = V.int j) = decide (i = j) := by
  by_cases h : i = j
  · subst h; simp
  · simp [h]
theorem dec_bl {i j : Bool} : decide (V.bl i = V.bl j) = decide (i = j) := by
  by_cases h : i = j
  · subst h; simp
  · simp [h]
theorem dec_str {i j : Str} : decide (V.str i = V.str j) = decide (i = j) := by
  by_cases h : i = j
  · subst h; simp
  · simp [h]
theorem opv_eq {i j : Int} : OpV Γ rEq (.int i) (.int j) (.bl (decide (i = j))) := fun G H vx vy Q e hx hy q => by
  cases hx
  cases hy
  refine ⟨rfl, ?_⟩
  rw [dec_int]
  exact q _ (.bl _)
theorem opv_ne {i j : Int} : OpV Γ rNe (.int i) (.int j) (.bl (!decide (i = j))) := fun G H vx vy Q e hx hy q => by
  cases hx
  cases hy
  refine ⟨rfl, ?_⟩
  rw [dec_int]
  exact q _ (.bl _)
theorem opv_eqB {i j : Bool} : OpV Γ rEq (.bl i) (.bl j) (.bl (decide (i = j))) := fun G H vx vy Q e hx hy q => by
  cases hx
  cases hy
  refine ⟨rfl, ?_⟩
  rw [dec_bl]
  exact q _ (.bl _)
theorem opv_eqS {i j : Str} : OpV Γ rEq (.str i) (.str j) (.bl (decide (i = j))) := fun G H vx vy Q e hx hy q => by
  cases hx
  cases hy
  refine ⟨rfl, ?_⟩
  rw [dec_str]
  exact q _ (.bl _)
theorem ew_neg {f : Int → Int} (h : EW Γ ta ρ fun x ρ1 => ∃ i, x = .int i ∧ Φ (.int (f i)) ρ1) : EW Γ (tUn (rU fun i => .int (f i)) ta) ρ Φ := fun σ G H Q k q =>
  h σ G H _ k fun x ρ1 vx G1 H1 e1 k1 r1 ⟨i, hi, p⟩ => by
    subst hi
    cases r1
    exact ⟨i, rfl, q _ ρ1 _ G1 H1 e1 k1 (.int _) p⟩
theorem ew_isN (h : EW Γ ta ρ fun x ρ1 => Φ (.bl (match x with | .non => true | _ => false)) ρ1) : EW Γ (tOp (fun x y H Q => y = .non ∧ Q (.bl (decide (x = .non))) H) ta (tC .non)) ρ Φ := fun σ G H Q k q =>
  h σ G H _ k fun x ρ1 vx G1 H1 e1 k1 r1 p => ⟨rfl, by
    refine q _ ρ1 _ G1 H1 e1 k1 ?_ p
    cases r1 <;> exact .bl _⟩
/-! ### tests -/
theorem tw_test (h : EW Γ ta ρ fun x ρ1 => ∃ b, x = .bl b ∧ Θ b ρ1) : TW Γ (tTest ta) ρ Θ := fun σ G H Q k q =>
  h σ G H _ k fun x ρ1 vx G1 H1 e1 k1 r1 ⟨b, hb, p⟩ => by
    subst hb
    cases r1
    exact ⟨b, rfl, q b ρ1 G1 H1 e1 k1 p⟩
theorem tw_B (h : EW Γ ta ρ fun x ρ1 => ∃ b, x = .bl b ∧ Θ b ρ1) : TW Γ (tB ta) ρ Θ := fun σ G H Q k q =>
  h σ G H _ k fun x ρ1 vx G1 H1 e1 k1 r1 ⟨b, hb, p⟩ => by
    subst hb
    cases r1
    exact ⟨b, rfl, q b ρ1 G1 H1 e1 k1 p⟩
theorem tw_not (h : TW Γ tt ρ fun b ρ1 => Θ (!b) ρ1) : TW Γ (tNot tt) ρ Θ := fun σ G H Q k q => h σ G H _ k fun b ρ1 G1 H1 e1 k1 p => q (!b) ρ1 G1 H1 e1 k1 p
theorem tw_and (h : TW Γ tt ρ fun b ρ1 => (b = true → TW Γ tu ρ1 Θ) ∧ (b = false → Θ false ρ1)) : TW Γ (tAnd tt tu) ρ Θ := fun σ G H Q k q => h σ G H _ k fun b ρ1 G1 H1 e1 k1 p => by
  cases b with
  | true => exact iteT (p.1 rfl σ G1 H1 Q k1 fun b' ρ2 G2 H2 e2 k2 p2 => q b' ρ2 G2 H2 (e1.trans e2) k2 p2)
  | false => exact iteF (q false ρ1 G1 H1 e1 k1 (p.2 rfl))
theorem tw_or (h : TW Γ tt ρ fun b ρ1 => (b = true → Θ true ρ1) ∧ (b = false → TW Γ tu ρ1 Θ)) : TW Γ (tOr tt tu) ρ Θ := fun σ G H Q k q => h σ G H _ k fun b ρ1 G1 H1 e1 k1 p => by
  cases b with
  | true => exact iteT (q true ρ1 G1 H1 e1 k1 (p.1 rfl))
  | false => exact iteF (p.2 rfl σ G1 H1 Q k1 fun b' ρ2 G2 H2 e2 k2 p2 => q b' ρ2 G2 H2 (e1.trans e2) k2 p2)
theorem ew_andV (h : EW Γ ta ρ fun x ρ1 => ∃ b, x = .bl b ∧ (b = true → EW Γ tb ρ1 Φ) ∧ (b = false → Φ (.bl false) ρ1)) : EW Γ (tAndV ta tb) ρ Φ := fun σ G H Q k q =>
  h σ G H _ k fun x ρ1 vx G1 H1 e1 k1 r1 ⟨b, hb, p1, p2⟩ => by
    subst hb
    cases r1
    refine ⟨b, rfl, ?_⟩
    cases b with
    | true => exact iteT (p1 rfl σ G1 H1 Q k1 fun d ρ2 v G2 H2 e2 k2 r2 p => q d ρ2 v G2 H2 (e1.trans e2) k2 r2 p)
    | false => exact iteF (q _ ρ1 _ G1 H1 e1 k1 (.bl _) (p2 rfl))
theorem ew_orV (h : EW Γ ta ρ fun x ρ1 => ∃ b, x = .bl b ∧ (b = true → Φ (.bl true) ρ1) ∧ (b = false → EW Γ tb ρ1 Φ)) : EW Γ (tOrV ta tb) ρ Φ := fun σ G H Q k q =>
  h σ G H _ k fun x ρ1 vx G1 H1 e1 k1 r1 ⟨b, hb, p1, p2⟩ => by
    subst hb
    cases r1
    refine ⟨b, rfl, ?_⟩
    cases b with
    | true => exact iteT (q _ ρ1 _ G1 H1 e1 k1 (.bl _) (p1 rfl))
    | false => exact iteF (p2 rfl σ G1 H1 Q k1 fun d ρ2 v G2 H2 e2 k2 r2 p => q d ρ2 v G2 H2 (e1.trans e2) k2 r2 p)
theorem ew_notV (h : EW Γ ta ρ fun x ρ1 => ∃ b, x = .bl b ∧ Φ (.bl (!b)) ρ1) : EW Γ (tNotV ta) ρ Φ := fun σ G H Q k q =>
  h σ G H _ k fun x ρ1 vx G1 H1 e1 k1 r1 ⟨b, hb, p⟩ => by
    subst hb
    cases r1
    exact ⟨b, rfl, q _ ρ1 _ G1 H1 e1 k1 (.bl _) p⟩
theorem ew_if (h : TW Γ tt ρ fun b ρ1 => (b = true → EW Γ ta ρ1 Φ) ∧ (b = false → EW Γ tb ρ1 Φ)) : EW Γ (tIf tt ta tb) ρ Φ := fun σ G H Q k q => h σ G H _ k fun b ρ1 G1 H1 e1 k1 p => by
  cases b with
  | true => exact iteT (p.1 rfl σ G1 H1 Q k1 fun d ρ2 v G2 H2 e2 k2 r2 p => q d ρ2 v G2 H2 (e1.trans e2) k2 r2 p)
  | false => exact iteF (p.2 rfl σ G1 H1 Q k1 fun d ρ2 v G2 H2 e2 k2 r2 p => q d ρ2 v G2 H2 (e1.trans e2) k2 r2 p)
theorem ew_chain {r r' : R2} (h : EW Γ ta ρ fun x ρ1 => EW Γ tb ρ1 fun y ρ2 => ∃ b, OpV Γ r x y (.bl b) ∧ (b = true → EW Γ tc ρ2 fun w ρ3 => ∃ z, OpV Γ r' y w z ∧ Φ z ρ3) ∧ (b = false → Φ (.bl false) ρ2)) : EW Γ (tChain r r' ta tb tc) ρ Φ := fun σ G H Q k q =>
  h σ G H _ k fun x ρ1 vx G1 H1 e1 k1 r1 h1 => h1 σ G1 H1 _ k1 fun y ρ2 vy G2 H2 e2 k2 r2 ⟨b, h2, p1, p2⟩ =>
    h2 G2 H2 vx vy _ k2.gh (r1.mono e2) r2 fun v rv => by
      cases rv
      refine ⟨b, rfl, ?_⟩
      cases b with
      | true => exact iteT (p1 rfl σ G2 H2 _ k2 fun w ρ3 vw G3 H3 e3 k3 r3 ⟨z, h3, p⟩ => h3 G3 H3 vy vw Q k3.gh (r2.mono e3) r3 fun v rv => q z ρ3 v G3 H3 ((e1.trans e2).trans e3) k3 rv p)
      | false => exact iteF (q _ ρ2 _ G2 H2 (e1.trans e2) k2 (.bl _) (p2 rfl))
/-! ### arguments, displays -/
theorem aw_nil (p : Λ [] ρ) : AW Γ tNil ρ Λ := fun σ G H Q k q => q [] ρ [] G H (Ex.refl G) k .nil p
theorem aw_cons {ts : TA} (h : EW Γ ta ρ fun d ρ1 => AW Γ ts ρ1 fun ds ρ2 => Λ (d :: ds) ρ2) : AW Γ (tCons ta ts) ρ Λ := fun σ G H Q k q =>
  h σ G H _ k fun d ρ1 v G1 H1 e1 k1 r1 h1 => h1 σ G1 H1 _ k1 fun ds ρ2 vs G2 H2 e2 k2 r2 p => q (d :: ds) ρ2 (v :: vs) G2 H2 (e1.trans e2) k2 (.cons (r1.mono e2) r2) p
theorem ew_tup {ts : TA} (h : AW Γ ts ρ fun ds ρ1 => ds.length ≤ 100000 ∧ Φ (.tup ds) ρ1) : EW Γ (tTup ts) ρ Φ := fun σ G H Q k q =>
  h σ G H _ k fun ds ρ1 vs G1 H1 e1 k1 r1 ⟨hl, p⟩ => ⟨Evl.sz_of (by rw [r1.length]; exact hl), fun a ha => by
    obtain ⟨k2, e2⟩ := k1.new (o := .tup vs) ha
    exact q _ ρ1 _ _ _ (e1.trans e2) k2 (.tup (SqT.of upd_same) (r1.mono e2)) p⟩
theorem ew_lst {ts : TA} (h : AW Γ ts ρ fun ds ρ1 => ds.length ≤ 100000 ∧ Φ (.lst ds) ρ1) : EW Γ (tLst ts) ρ Φ := fun σ G H Q k q =>
  h σ G H _ k fun ds ρ1 vs G1 H1 e1 k1 r1 ⟨hl, p⟩ => ⟨Evl.sz_of (by rw [r1.length]; exact hl), fun a ha => by
    obtain ⟨k2, e2⟩ := k1.new (o := .lst vs) ha
    exact q _ ρ1 _ _ _ (e1.trans e2) k2 (.lst (SqL.of upd_same) (r1.mono e2)) p⟩
/-- a new list of one's own -/
theorem br_newC {G H : Hp} {σ : St} {p : Addr} {vs : HO} {ds : Ct} (k : Ok Γ G H σ ρ) (hp : H p = none) (r : RepC Γ.K G vs ds) : BR Γ G (upd H p vs) σ ρ (.ref p) (.ow ds) := by
  refine ⟨⟨p, vs, rfl, upd_same, r, Evl.fresh_back k.gh hp, fun h => Γ.R.dom H p k.res h hp, ?_⟩, fun es _ a e => ?_⟩
  · cases e : Γ.H p with
    | none => rfl
    | some u => exact absurd hp (k.dm p (by rw [e]; simp))
  · cases e
    refine ⟨fun i o => ?_, fun q hq e => ?_⟩
    · obtain ⟨xs, e1, _⟩ := own_in k o
      rw [hp] at e1
      cases e1
    · obtain ⟨e1, _⟩ := k.cel q hq
      rw [e, hp] at e1
      cases e1
theorem br_new {G H : Hp} {σ : St} {p : Addr} {vs : List V} {ds : List D} (k : Ok Γ G H σ ρ) (hp : H p = none) (r : RepL Γ.K G vs ds) : BR Γ G (upd H p (.lst vs)) σ ρ (.ref p) (.ow (.lst ds)) := br_newC k hp (.lst r)
theorem Ok.lst {G H : Hp} {σ : St} {l : Nat} {ds : List D} (k : Ok Γ G H σ ρ) (h : ρ[l]? = some (some (.ow (.lst ds)))) : ∃ a xs, σ[l]? = some (some (.ref a)) ∧ H a = some (.lst xs) ∧ RepL Γ.K G xs ds := by
  obtain ⟨v, h1, a, o, rfl, g1, g2, _⟩ := k.var l _ h
  cases g2 with
  | lst g2 => exact ⟨a, _, h1, g1, g2⟩
theorem eb_lst {ts : TA} (h : AW Γ ts ρ fun ds ρ1 => ds.length ≤ 100000 ∧ Ψ (.ow (.lst ds)) ρ1) : EB Γ (tLst ts) ρ Ψ := fun σ G H Q k q =>
  h σ G H _ k fun ds ρ1 vs G1 H1 e1 k1 r1 ⟨hl, p⟩ => ⟨Evl.sz_of (by rw [r1.length]; exact hl), fun a ha => q _ ρ1 _ _ _ e1 (k1.newO ha) (br_new k1 ha r1) p⟩

/-! ### calls -/
/-- what a def promises of plain data: C, from its arguments, tells when a result (or an exception) is right -/
abbrev Cn := PySem.W.Frag → Addr → List D → (B → Prop) → (Addr → Str → D → Prop) → Prop
def BVr (K : PySem.W.Frag) (R : Rsc) (G H H0 : Hp) (v : V) : B → Prop
  | .fz d => Rep K G v d
  | .ow ds => ∃ a xs, v = .ref a ∧ H a = some xs ∧ RepC K G xs ds ∧ G a = none ∧ ¬ R.F a ∧ H0 a = none
/-- the state behind a call that was made at G, H -/
structure Aft (R : Rsc) (G H G' H' : Hp) : Prop where
  gg : Ex G G'
  gh : Ex G' H'
  res : R.I H'
  rg : ∀ a, R.F a → G' a = none
  nw : ∀ a, G a = none → H a ≠ none → G' a = none
  fr : ∀ a o, ¬ R.F a → H a = some o → H' a = some o
  dm : ∀ a, H a ≠ none → H' a ≠ none
def SpD (K : PySem.W.Frag) (Fam : Rsc → Prop) (C : Cn) : Sp := fun vs H Q E => ∃ (R : Rsc) (G : Hp) (ds : List D) (Ψ : B → Prop) (Ξ : Addr → Str → D → Prop), Fam R ∧ R.I H ∧ (∀ a, R.F a → G a = none) ∧ Ex G H ∧ RepL K G vs ds ∧ C K R.w ds Ψ Ξ ∧
  (∀ b v G' H', Aft R G H G' H' → BVr K R G' H' H v b → Ψ b → Q v H') ∧
  (∀ Cl f v d dd G' H', Aft R G H G' H' → H' dd = some (.xd [(f, v)]) → H dd = none → Rep K G' v d → Ξ Cl f d → E (.ref Cl) (some dd) H')
/-- an exception's field in its own dict, newly made -/
structure XC (Γ : Ctx) (H' : Hp) (dd : Addr) (f : Str) (v : V) : Prop where
  at_ : H' dd = some (.xd [(f, v)])
  nf : ¬ Γ.R.F dd
  nx : ∀ p ∈ Γ.X, p.1 ≠ dd
  nh : Γ.H dd = none
/-- what a def's body knows of the wish of exceptions -/
def KE (Γ : Ctx) (Ξ : Addr → Str → D → Prop) (E : XK) : Prop := ∀ C f v d dd σ' ρ' G' H', Ok Γ G' H' σ' ρ' → XC Γ H' dd f v → Rep Γ.K G' v d → Ξ C f d → E (.ref C) (some dd) H'
abbrev NoX : Addr → Str → D → Prop := fun _ _ _ => False
theorem Ok.aft {G G' H H' : Hp} {σ : St} (k : Ok Γ G H σ ρ) (a : Aft Γ.R G H G' H') : Ok Γ G' H' σ ρ := k.grow a.gg a.gh a.nw a.fr a.dm a.res a.rg
theorem Aft.no {R : Rsc} {G G' H H' : Hp} (hr : R.I H) (hg : ∀ a, R.F a → G a = none) (hG : Ex G H) (a : Aft Rsc.no G H G' H') : Aft R G H G' H' where
  gg := a.gg
  gh := a.gh
  res := R.st H H' hr fun b hb => by
    cases e : H b with
    | none => exact absurd e (R.dom H b hr hb)
    | some o => exact a.fr b o (fun z => z) e
  rg := fun b hb => a.nw b (hg b hb) (R.dom H b hr hb)
  nw := a.nw
  fr := fun b o _ h => a.fr b o (fun z => z) h
  dm := a.dm
theorem br_of {G G' H H' : Hp} {σ : St} {v : V} {b : B} (k : Ok Γ G H σ ρ) (h : BVr Γ.K Γ.R G' H' H v b) : BR Γ G' H' σ ρ v b := by
  cases b with
  | fz d => exact .fz h
  | ow ds =>
    obtain ⟨a, xs, rfl, h1, h2, h3, h4, h5⟩ := h
    refine ⟨⟨a, xs, rfl, h1, h2, h3, h4, ?_⟩, fun es _ c e => ?_⟩
    · cases e : Γ.H a with
      | none => rfl
      | some u => exact absurd h5 (k.dm a (by rw [e]; simp))
    · cases e
      refine ⟨fun i o => ?_, fun q hq e => ?_⟩
      · obtain ⟨xs, e1, _⟩ := own_in k o
        rw [h5] at e1
        cases e1
      · obtain ⟨e1, _⟩ := k.cel q hq
        rw [e, h5] at e1
        cases e1
/-- a call of a def that draws nothing -/
theorem eb_callP {K : PySem.W.Frag} {C : Cn} {Fam : Rsc → Prop} {ts : TA} {E : XK} (hK : K = Γ.K) (hF : Fam Rsc.no) (h : AW Γ ts ρ fun ds ρ1 => C Γ.K 0 ds (fun b => Ψ b ρ1) NoX) : EB Γ (tCall (SpD K Fam C) [] E ts) ρ Ψ := fun σ G H Q k q =>
  h σ G H _ k fun ds ρ1 vs G1 H1 e1 k1 r1 hc => by
    subst hK
    show SpD Γ.K Fam C (vs ++ []) H1 Q E
    rw [List.append_nil]
    refine ⟨Rsc.no, G1, ds, _, NoX, hF, trivial, fun _ z => z.elim, k1.gh, r1, hc, fun b v G' H' a hb p => ?_, fun _ _ _ _ _ _ _ _ _ _ _ z => z.elim⟩
    have a' := Aft.no k1.res k1.rg k1.gh a
    refine q b ρ1 v G' H' (e1.trans a.gg) (k1.aft a') (br_of k1 ?_) p
    cases b with
    | fz d => exact hb
    | ow ds =>
      obtain ⟨c, xs, e, h1, h2, h3, h4, h5⟩ := hb
      exact ⟨c, xs, e, h1, h2, h3, fun z => Γ.R.dom H1 c k1.res z h5, h5⟩
/-- a call of a def that draws from the resource -/
theorem eb_callR {K : PySem.W.Frag} {C : Cn} {Fam : Rsc → Prop} {ts : TA} {E : XK} (hK : K = Γ.K) (hF : Fam Γ.R) (h : AW Γ ts ρ fun ds ρ1 => C Γ.K Γ.R.w ds (fun b => Ψ b ρ1) NoX) : EB Γ (tCall (SpD K Fam C) [] E ts) ρ Ψ := fun σ G H Q k q =>
  h σ G H _ k fun ds ρ1 vs G1 H1 e1 k1 r1 hc => by
    subst hK
    show SpD Γ.K Fam C (vs ++ []) H1 Q E
    rw [List.append_nil]
    exact ⟨Γ.R, G1, ds, _, NoX, hF, k1.res, k1.rg, k1.gh, r1, hc, fun b v G' H' a hb p => q b ρ1 v G' H' (e1.trans a.gg) (k1.aft a) (br_of k1 hb) p, fun _ _ _ _ _ _ _ _ _ _ _ z => z.elim⟩
/-- a result as data -/
@[reducible] def asD : B → D
  | .fz d => d
  | .ow c => c.d
theorem ew_of_eb (h : EB Γ te ρ fun b ρ1 => Φ (asD b) ρ1) : EW Γ te ρ Φ := fun σ G H Q k q => h σ G H Q k fun b ρ1 v G1 H1 e1 k1 r1 p => by
  cases b with
  | fz d => exact q d ρ1 v G1 H1 e1 k1 r1.1 p
  | ow ds =>
    obtain ⟨⟨a, xs, rfl, h1, h2, h3, h4, h5⟩, hn⟩ := r1
    -- the list is frozen
    have gg : Ex G1 (upd G1 a xs) := Ex.new h3
    refine q ds.d ρ1 _ (upd G1 a xs) H1 (e1.trans gg) ?_ ((RepC.mono gg h2).rep upd_same) p
    refine ⟨fun b o h => ?_, k1.g0.trans gg, fun b g1 g2 => ?_, k1.fr, k1.dm, k1.res, fun b h => by rw [upd_ne fun e => h4 (by rw [← e]; exact h)]; exact k1.rg b h, k1.len, fun j b h => ?_, k1.dj, fun p hp => ?_, k1.nx⟩
    · by_cases e : b = a
      · subst e
        rw [upd_same] at h
        cases h
        exact h1
      · rw [upd_ne e] at h
        exact k1.gh b o h
    · rw [upd_ne fun e => g2 (by rw [e]; exact h5)]
      exact k1.nw b g1 g2
    · obtain ⟨v, g1, g2⟩ := k1.var j b h
      refine ⟨v, g1, ?_⟩
      cases b with
      | fz d => exact Rep.mono gg g2
      | ow es =>
        obtain ⟨c, ys, rfl, q1, q2, q3, q4, q5⟩ := g2
        have hc : c ≠ a := fun e => (hn ds rfl a rfl).1 j ⟨by rw [g1, e], es, h⟩
        exact ⟨c, ys, rfl, q1, RepC.mono gg q2, by rw [upd_ne hc]; exact q3, q4, q5⟩
    · obtain ⟨e1, e2, e3⟩ := k1.cel p hp
      exact ⟨e1, by rw [upd_ne ((hn ds rfl a rfl).2 p hp)]; exact e2, e3⟩
theorem ew_callP {K : PySem.W.Frag} {C : Cn} {Fam : Rsc → Prop} {ts : TA} {E : XK} (hK : K = Γ.K) (hF : Fam Rsc.no) (h : AW Γ ts ρ fun ds ρ1 => C Γ.K 0 ds (fun b => Φ (asD b) ρ1) NoX) : EW Γ (tCall (SpD K Fam C) [] E ts) ρ Φ := ew_of_eb (eb_callP hK hF h)
theorem ew_callR {K : PySem.W.Frag} {C : Cn} {Fam : Rsc → Prop} {ts : TA} {E : XK} (hK : K = Γ.K) (hF : Fam Γ.R) (h : AW Γ ts ρ fun ds ρ1 => C Γ.K Γ.R.w ds (fun b => Φ (asD b) ρ1) NoX) : EW Γ (tCall (SpD K Fam C) [] E ts) ρ Φ := ew_of_eb (eb_callR hK hF h)
/-- from the promise to the body -/
theorem body_ok {K : PySem.W.Frag} {Fam : Rsc → Prop} {C : Cn} {N : List Str} {t : TS} {vs : List V} {H : Hp} {Q : VK} {E : XK} (n : Nat) (hn : n ≤ N.length) (hlen : ∀ K w ds Ψ Ξ, C K w ds Ψ Ξ → ds.length = n) (h : SpD K Fam C vs H Q E)
    (hb : ∀ (Γ : Ctx) (ds : List D) (Ψ : B → Prop) (Ξ : Addr → Str → D → Prop), Γ.K = K → Γ.X = [] → Fam Γ.R → C K Γ.R.w ds Ψ Ξ → KE Γ Ξ E →
      SW Γ t (ds.map (fun d => some (.fz d)) ++ List.replicate (N.length - ds.length) none) { nx := fun _ => Ψ (.fz .non), rt := Ψ, bk := fun _ => False, ct := fun _ => False, xr := fun _ => Ξ }) :
    t { nx := fun _ H' => Q .non H', rt := Q } (start N vs) H := by
  obtain ⟨R, G, ds, Ψ, Ξ, hF, hr, hg, hG, rl, hc, kq, ke⟩ := h
  have hl := rl.length
  have hk : Ok ⟨K, G, H, R, []⟩ G H (L2.start N vs) (ds.map (fun d => some (.fz d)) ++ List.replicate (N.length - ds.length) none) := by
    refine ⟨hG, Ex.refl G, fun a h _ => h, fun a o _ h => h, fun a h => h, hr, hg, ?_, fun i b h => ?_, fun i j a ⟨_, es, q⟩ _ => ?_, fun p hp => absurd hp (by simp), fun i a _ p hp => absurd hp (by simp)⟩
    · unfold L2.start
      rw [List.length_append, List.length_append, List.length_map, List.length_map, List.length_replicate, List.length_replicate, hl]
    · have hlt : i < ds.length := by
        by_cases hi : i < ds.length
        · exact hi
        · exfalso
          rw [List.getElem?_append_right (by rw [List.length_map]; omega)] at h
          obtain ⟨_, e⟩ := List.getElem?_eq_some_iff.mp h
          rw [List.getElem_replicate] at e
          cases e
      rw [List.getElem?_append_left (by rw [List.length_map]; exact hlt), List.getElem?_map] at h
      obtain ⟨d, hd⟩ : ∃ d, ds[i]? = some d := ⟨ds[i], List.getElem?_eq_getElem hlt⟩
      rw [hd] at h
      cases h
      obtain ⟨v, hv, rv⟩ := rl.getD hd
      refine ⟨v, ?_, rv⟩
      unfold L2.start
      rw [List.getElem?_append_left (by rw [List.length_map, hl]; exact hlt), List.getElem?_map, hv]
      rfl
    · exfalso
      have hlt : i < ds.length := by
        by_cases hi : i < ds.length
        · exact hi
        · exfalso
          rw [List.getElem?_append_right (by rw [List.length_map]; omega)] at q
          obtain ⟨_, e⟩ := List.getElem?_eq_some_iff.mp q
          rw [List.getElem_replicate] at e
          cases e
      rw [List.getElem?_append_left (by rw [List.length_map]; exact hlt), List.getElem?_map] at q
      cases hd : ds[i]? with
      | none =>
        rw [hd] at q
        cases q
      | some d =>
        rw [hd] at q
        cases q
  have aft : ∀ {G' H' : Hp} {σ' : St} {ρ' : Env}, Ok ⟨K, G, H, R, []⟩ G' H' σ' ρ' → Aft R G H G' H' := fun k => ⟨k.g0, k.gh, k.res, k.rg, k.nw, k.fr, k.dm⟩
  refine hb ⟨K, G, H, R, []⟩ ds Ψ Ξ rfl rfl hF hc (fun C f v d dd σ' ρ' G' H' k x rv xi => ke C f v d dd G' H' (aft k) x.at_ x.nh rv xi) _ G H _ hk (fun ρ' σ' G' H' _ k p => kq (.fz .non) _ G' H' (aft k) (Rep.non : Rep K G' V.non D.non) p) (fun b v σ' ρ' G' H' k r p => kq b v G' H' (aft k) ?_ p) (fun _ _ _ _ _ _ z => z.elim) (fun _ _ _ _ _ _ z => z.elim)
  have r1 := r.1
  cases b with
  | fz d => exact r1
  | ow es => exact r1
/-! ### statements -/
variable {ts tu : TS} {Δ : Fin}
theorem sw_next (p : Δ.nx ρ) : SW Γ tNext ρ Δ := fun σ G H D k hn hr hb hc => hn ρ σ G H (Ex.refl G) k p
theorem sw_brk (p : Δ.bk ρ) : SW Γ tBreak ρ Δ := fun σ G H D k hn hr hb hc => hb ρ σ G H (Ex.refl G) k p
theorem sw_cont (p : Δ.ct ρ) : SW Γ tCont ρ Δ := fun σ G H D k hn hr hb hc => hc ρ σ G H (Ex.refl G) k p
theorem sw_seq (h : SW Γ ts ρ { Δ with nx := fun ρ1 => SW Γ tu ρ1 Δ }) : SW Γ (tSeq ts tu) ρ Δ := fun σ G H D k hn hr hb hc =>
  h σ G H { D with nx := tu D } k (fun ρ1 σ1 G1 H1 e k1 p => p σ1 G1 H1 D k1 (fun ρ' σ' G' H' e' => hn ρ' σ' G' H' (e.trans e')) hr (fun ρ' σ' G' H' e' => hb ρ' σ' G' H' (e.trans e')) (fun ρ' σ' G' H' e' => hc ρ' σ' G' H' (e.trans e'))) hr hb hc
theorem sw_asg {i : Nat} (h : EW Γ te ρ fun d ρ1 => Δ.nx (ρ1.set i (some (.fz d)))) : SW Γ (tAsg te (gName i)) ρ Δ := fun σ G H D k hn hr hb hc =>
  h σ G H _ k fun d ρ1 v G1 H1 e1 k1 r1 p => hn _ _ G1 H1 e1 (k1.store (.fz r1)) p
theorem sw_asgB {i : Nat} (h : EB Γ te ρ fun b ρ1 => Δ.nx (ρ1.set i (some b))) : SW Γ (tAsg te (gName i)) ρ Δ := fun σ G H D k hn hr hb hc =>
  h σ G H _ k fun b ρ1 v G1 H1 e1 k1 r1 p => hn _ _ G1 H1 e1 (k1.store r1) p
theorem sw_drop (h : EW Γ te ρ fun d ρ1 => Δ.nx ρ1) : SW Γ (tDrop te) ρ Δ := fun σ G H D k hn hr hb hc =>
  h σ G H _ k fun d ρ1 v G1 H1 e1 k1 r1 p => hn _ _ G1 H1 e1 k1 p
theorem sw_ret (h : EW Γ te ρ fun d ρ1 => Δ.rt (.fz d)) : SW Γ (tRet te) ρ Δ := fun σ G H D k hn hr hb hc =>
  h σ G H _ k fun d ρ1 v G1 H1 e1 k1 r1 p => hr _ v σ ρ1 G1 H1 k1 (.fz r1) p
theorem sw_retB (h : EB Γ te ρ fun b ρ1 => Δ.rt b) : SW Γ (tRet te) ρ Δ := fun σ G H D k hn hr hb hc =>
  h σ G H _ k fun b ρ1 v G1 H1 e1 k1 r1 p => hr _ v σ ρ1 G1 H1 k1 r1 p
theorem sw_retN (p : Δ.rt (.fz .non)) : SW Γ tRetN ρ Δ := fun σ G H D k hn hr hb hc => hr (.fz .non) .non σ ρ G H k (.fz (Rep.non : Rep Γ.K G V.non Dl.D.non)) p
/-- return x, x a list of one's own -/
theorem sw_retO {i : Nat} {ds : Ct} (h : ρ[i]? = some (some (.ow ds))) (p : Δ.rt (.ow ds)) : SW Γ (tRet (tVar i)) ρ Δ := fun σ G H D k hn hr hb hc => by
  obtain ⟨v, h1, h2⟩ := k.var i _ h
  refine ⟨v, h1, hr _ v σ (ρ.set i none) G H (k.weak (by rw [List.length_set]) fun j b e => ?_) ⟨h2, fun es _ a e => ⟨fun j o => ?_, k.nx i a ⟨by rw [h1, e], ds, h⟩⟩⟩ p⟩
  · by_cases hj : j = i
    · subst hj
      rw [List.getElem?_set_self (List.getElem?_eq_some_iff.mp h).1] at e
      cases e
    · rw [List.getElem?_set_ne (Ne.symm hj)] at e
      exact e
  · obtain ⟨q1, fs, q2⟩ := o
    by_cases hj : j = i
    · subst hj
      rw [List.getElem?_set_self (List.getElem?_eq_some_iff.mp h).1] at q2
      cases q2
    · rw [List.getElem?_set_ne (Ne.symm hj)] at q2
      exact hj (k.dj j i a ⟨q1, fs, q2⟩ ⟨by rw [h1, e], ds, h⟩)
theorem sw_if (h : TW Γ tt ρ fun b ρ1 => (b = true → SW Γ ts ρ1 Δ) ∧ (b = false → SW Γ tu ρ1 Δ)) : SW Γ (tIfS tt ts tu) ρ Δ := fun σ G H D k hn hr hb hc =>
  h σ G H _ k fun b ρ1 G1 H1 e1 k1 p => by
    have hn' : ∀ ρ' σ' G' H', Ex G1 G' → Ok Γ G' H' σ' ρ' → Δ.nx ρ' → D.nx σ' H' := fun ρ' σ' G' H' e' => hn ρ' σ' G' H' (e1.trans e')
    have hb' : ∀ ρ' σ' G' H', Ex G1 G' → Ok Γ G' H' σ' ρ' → Δ.bk ρ' → D.bk σ' H' := fun ρ' σ' G' H' e' => hb ρ' σ' G' H' (e1.trans e')
    have hc' : ∀ ρ' σ' G' H', Ex G1 G' → Ok Γ G' H' σ' ρ' → Δ.ct ρ' → D.ct σ' H' := fun ρ' σ' G' H' e' => hc ρ' σ' G' H' (e1.trans e')
    cases b with
    | true => exact iteT (p.1 rfl σ G1 H1 D k1 hn' hr hb' hc')
    | false => exact iteF (p.2 rfl σ G1 H1 D k1 hn' hr hb' hc')
theorem sw_imp {Δ' : Fin} (h : SW Γ ts ρ Δ') (h1 : ∀ ρ', Δ'.nx ρ' → Δ.nx ρ') (h2 : ∀ b, Δ'.rt b → Δ.rt b) (h3 : ∀ ρ', Δ'.bk ρ' → Δ.bk ρ') (h4 : ∀ ρ', Δ'.ct ρ' → Δ.ct ρ') : SW Γ ts ρ Δ := fun σ G H D k hn hr hb hc =>
  h σ G H D k (fun ρ' σ' G' H' e k' p => hn ρ' σ' G' H' e k' (h1 ρ' p)) (fun b v σ' ρ' G' H' k' r p => hr b v σ' ρ' G' H' k' r (h2 b p)) (fun ρ' σ' G' H' e k' p => hb ρ' σ' G' H' e k' (h3 ρ' p)) (fun ρ' σ' G' H' e k' p => hc ρ' σ' G' H' e k' (h4 ρ' p))
/-- slots forgotten, a list frozen: anywhere -/
theorem sw_weak {ρ' : Env} (hl : ρ'.length = ρ.length) (hs : ∀ (i : Nat) (b : B), ρ'[i]? = some (some b) → ρ[i]? = some (some b)) (h : SW Γ ts ρ' Δ) : SW Γ ts ρ Δ := fun σ G H D k => h σ G H D (k.weak hl hs)
theorem sw_freeze {i : Nat} {ds : Ct} (hi : ρ[i]? = some (some (.ow ds))) (h : SW Γ ts (ρ.set i (some (.fz ds.d))) Δ) : SW Γ ts ρ Δ := fun σ G H D k hn hr hb hc => by
  obtain ⟨v, h1, a, xs, rfl, _⟩ := k.var i _ hi
  obtain ⟨G', e, k', _⟩ := k.freeze hi h1
  exact h σ G' H D k' (fun ρ' σ' G2 H' e' => hn ρ' σ' G2 H' (e.trans e')) hr (fun ρ' σ' G2 H' e' => hb ρ' σ' G2 H' (e.trans e')) (fun ρ' σ' G2 H' e' => hc ρ' σ' G2 H' (e.trans e'))
/-- a, b = e1, e2 -/
theorem sw_par {i j : Nat} {ta : TA} (h : AW Γ ta ρ fun ds ρ1 => ∃ x y, ds = [x, y] ∧ Δ.nx ((ρ1.set i (some (.fz x))).set j (some (.fz y)))) : SW Γ (tPar i j ta) ρ Δ := fun σ G H D k hn hr hb hc =>
  h σ G H _ k fun ds ρ1 vs G1 H1 e1 k1 r1 ⟨x, y, e, p⟩ => by
    subst e
    cases r1 with
    | cons r1 r2 => cases r2 with
      | cons r2 r3 =>
        cases r3
        exact ⟨_, _, rfl, hn _ _ G1 H1 e1 ((k1.store (.fz r1)).store (.fz r2)) p⟩
/-- the names of a target take the data one by one -/
def gN : List Nat → TGs
  | [] => gNil
  | i :: r => gCons (gName i) (gN r)
def sets (ρ : Env) : List Nat → List D → Env
  | i :: r, d :: ds => sets (ρ.set i (some (.fz d))) r ds
  | _, _ => ρ
theorem gN_ok {G H : Hp} {Q : St → Hp → Prop} : ∀ (is : List Nat) {σ : St} {ρ : Env} {vs : List V} {ds : List D}, Ok Γ G H σ ρ → RepL Γ.K G vs ds → is.length = ds.length → (∀ σ', Ok Γ G H σ' (sets ρ is ds) → Q σ' H) → gN is vs σ H Q
  | [], _, _, _, _, k, .nil, _, q => ⟨rfl, q _ k⟩
  | i :: r, _, _, _, _, k, .cons h hs, e, q => ⟨_, _, rfl, gN_ok r (k.store (.fz h)) hs (by simpa using e) q⟩
/-- the target of a loop: data to slots -/
def GD (Γ : Ctx) (g : TG) (d : D) (ρ ρ' : Env) : Prop := ∀ σ G H v (Q : St → Hp → Prop), Ok Γ G H σ ρ → Rep Γ.K G v d → (∀ σ', Ok Γ G H σ' ρ' → Q σ' H) → g v σ H Q
theorem gd_name {i : Nat} {d : D} : GD Γ (gName i) d ρ (ρ.set i (some (.fz d))) := fun σ G H v Q k r q => q _ (k.store (.fz r))
theorem sq_up {G H : Hp} {a : Addr} {xs : List V} {K : PySem.W.Frag} (e : Ex G H) (h : SqT K G a xs) : SqT K H a xs := Evl.ex_t e h
theorem gd_tup {K : PySem.W.Frag} {is : List Nat} {n : Nat} {g : TGs} {ds : List D} (hK : K = Γ.K) (hg : g = gN is) (h1 : ds.length = n) (h2 : is.length = n) : GD Γ (gTup K n g) (.tup ds) ρ (sets ρ is ds) := fun σ G H v Q k r q => by
  subst hg
  subst hK
  cases r with
  | tup hq hs => exact ⟨_, _, rfl, sq_up k.gh hq, hs.length.trans h1, gN_ok is k hs (h2.trans h1.symm) q⟩
/-- any target -/
theorem sw_asgG {g : TG} (h : EW Γ te ρ fun d ρ1 => ∃ ρ2, GD Γ g d ρ1 ρ2 ∧ Δ.nx ρ2) : SW Γ (tAsg te g) ρ Δ := fun σ G H D k hn hr hb hc =>
  h σ G H _ k fun d ρ1 v G1 H1 e1 k1 r1 ⟨ρ2, g2, p⟩ => g2 σ G1 H1 v _ k1 r1 fun σ' k' => hn _ σ' G1 H1 e1 k' p
/-- a, b = e and a, b, c = e, e a tuple -/
theorem sw_unp2 {K : PySem.W.Frag} {n i j : Nat} (hK : K = Γ.K) (hn : n = 2) (h : EW Γ te ρ fun d ρ1 => ∃ x y, d = .tup [x, y] ∧ Δ.nx ((ρ1.set i (some (.fz x))).set j (some (.fz y)))) : SW Γ (tAsg te (gTup K n (gCons (gName i) (gCons (gName j) gNil)))) ρ Δ := by
  subst hn
  exact sw_asgG (ew_imp h fun d ρ1 ⟨x, y, e, p⟩ => by
    subst e
    exact ⟨_, gd_tup (is := [i, j]) hK rfl rfl rfl, p⟩)
theorem sw_unp3 {K : PySem.W.Frag} {n i j l : Nat} (hK : K = Γ.K) (hn : n = 3) (h : EW Γ te ρ fun d ρ1 => ∃ x y z, d = .tup [x, y, z] ∧ Δ.nx (((ρ1.set i (some (.fz x))).set j (some (.fz y))).set l (some (.fz z)))) : SW Γ (tAsg te (gTup K n (gCons (gName i) (gCons (gName j) (gCons (gName l) gNil))))) ρ Δ := by
  subst hn
  exact sw_asgG (ew_imp h fun d ρ1 ⟨x, y, z, e, p⟩ => by
    subst e
    exact ⟨_, gd_tup (is := [i, j, l]) hK rfl rfl rfl, p⟩)
theorem br_t {A B : Prop} (h : A) : (true = true → A) ∧ (true = false → B) := ⟨fun _ => h, fun z => Bool.noConfusion z⟩
theorem br_f {A B : Prop} (h : B) : (false = true → A) ∧ (false = false → B) := ⟨fun z => Bool.noConfusion z, fun _ => h⟩
theorem len_ok {α : Type} {ds : List α} {P : Prop} (h : Nat.ble ds.length 100000 = true) (p : P) : ds.length ≤ 100000 ∧ P := ⟨Nat.le_of_ble_eq_true h, p⟩
/-- a word between a statement and the rest -/
theorem sw_cut (M : Env → Prop) (h : SW Γ ts ρ { Δ with nx := M }) (k : ∀ ρ', M ρ' → SW Γ tu ρ' Δ) : SW Γ (tSeq ts tu) ρ Δ := sw_seq (sw_imp h k (fun _ p => p) (fun _ p => p) (fun _ p => p))
/-- an if that something follows: where a walk stops -/
theorem sw_isif {tv : TS} (h : SW Γ (tSeq (tIfS tt ts tu) tv) ρ Δ) : SW Γ (tSeq (tIfS tt ts tu) tv) ρ Δ := h
/-- a word behind a statement -/
theorem sw_mid (M : Env → Prop) (h : SW Γ ts ρ { Δ with nx := M }) (k : ∀ ρ', M ρ' → Δ.nx ρ') : SW Γ ts ρ Δ := sw_imp h k (fun _ p => p) (fun _ p => p) (fun _ p => p)
/-! ### loops -/
theorem sw_while (J : Nat → Env → Prop) (m : Nat) (h0 : J m ρ) (hs : ∀ m ρ', J m ρ' → TW Γ tt ρ' fun b ρ1 => (b = true → SW Γ ts ρ1 { Δ with nx := fun ρ2 => ∃ m', m' < m ∧ J m' ρ2, ct := fun ρ2 => ∃ m', m' < m ∧ J m' ρ2, bk := Δ.nx }) ∧ (b = false → Δ.nx ρ1)) : SW Γ (tWhile tt ts) ρ Δ := fun σ G0 H D k hn hr hb hc =>
  ⟨fun m σ H => ∃ G ρ', Ex G0 G ∧ Ok Γ G H σ ρ' ∧ J m ρ', ⟨m, G0, ρ, Ex.refl _, k, h0⟩, fun m σ H ⟨G, ρ', e0, k, hi⟩ => hs m ρ' hi σ G H _ k fun b ρ1 G1 H1 e1 k1 p => by
    cases b with
    | true =>
      refine iteT ⟨fun σ' H' => ∃ m', m' < m ∧ ∃ G ρ', Ex G0 G ∧ Ok Γ G H' σ' ρ' ∧ J m' ρ', fun σ' H' h => h, p.1 rfl σ G1 H1 _ k1 (fun ρ' σ' G' H' e' k' ⟨m', h1, h2⟩ => ⟨m', h1, G', ρ', (e0.trans e1).trans e', k', h2⟩) hr (fun ρ' σ' G' H' e' => hn ρ' σ' G' H' ((e0.trans e1).trans e')) (fun ρ' σ' G' H' e' k' ⟨m', h1, h2⟩ => ⟨m', h1, G', ρ', (e0.trans e1).trans e', k', h2⟩)⟩
    | false => exact iteF (hn ρ1 σ G1 H1 (e0.trans e1) k1 (p.2 rfl))⟩
/-- one turn of a for, from the data's view -/
def Turn1 (Γ : Ctx) (g : TG) (ts : TS) (Δ : Fin) (x : D) (ρ2 : Env) (nxt : Env → Prop) : Prop := ∃ ρ3, GD Γ g x ρ2 ρ3 ∧ SW Γ ts ρ3 { Δ with nx := nxt, ct := nxt, bk := Δ.nx }
theorem Turn1.run {g : TG} {x : D} {nxt : Env → Prop} {G0 G1 G H : Hp} {σ : St} {D : Ends} {v : V} {N : St → Hp → Prop} (t : Turn1 Γ g ts Δ x ρ nxt) (k : Ok Γ G H σ ρ) (e0 : Ex G0 G1) (e : Ex G1 G) (r : Rep Γ.K G v x)
    (hn : ∀ ρ' σ' G' H', Ex G0 G' → Ok Γ G' H' σ' ρ' → Δ.nx ρ' → D.nx σ' H') (hr : ∀ b v σ' ρ' G' H', Ok Γ G' H' σ' ρ' → BR Γ G' H' σ' ρ' v b → Δ.rt b → D.rt v H') (hN : ∀ σ' H', (∃ G ρ', Ex G1 G ∧ Ok Γ G H' σ' ρ' ∧ nxt ρ') → N σ' H') :
    g v σ H fun σ2 H2 => ts { D with nx := N, ct := N, bk := D.nx } σ2 H2 := by
  obtain ⟨ρ3, g3, s3⟩ := t
  refine g3 σ G H v _ k r fun σ' k3 => s3 σ' G H _ k3 (fun ρ' σ' G' H' e' k' p => hN σ' H' ⟨G', ρ', e.trans e', k', p⟩) hr (fun ρ' σ' G' H' e' k' p => hn ρ' σ' G' H' ((e0.trans e).trans e') k' p) (fun ρ' σ' G' H' e' k' p => hN σ' H' ⟨G', ρ', e.trans e', k', p⟩)
theorem sw_forR {ta : TA} {g : TG} (h : AW Γ ta ρ fun ds ρ1 => ∃ n : Int, ds = [.int n] ∧ (n ≤ 2 ^ 61 ∧ -(2 ^ 61) ≤ n) ∧ ∃ J : Nat → Env → Prop, J 0 ρ1 ∧
    (∀ i ρ2, i < n.toNat → J i ρ2 → Turn1 Γ g ts Δ (.int i) ρ2 (J (i + 1))) ∧ (∀ ρ2, J n.toNat ρ2 → Δ.nx ρ2)) : SW Γ (tFor (iRng1 ta) g ts) ρ Δ := fun σ G H D k hn hr hb hc =>
  h σ G H _ k fun ds ρ1 vs G1 H1 e1 k1 r1 ⟨n, e, b1, J, i0, is, id⟩ => by
    subst e
    cases r1 with
    | cons r r' => cases r' with
      | nil =>
        cases r
        exact ⟨n, rfl, by omega, by omega, for_range (lo := 0) (n := n.toNat) (fun i σ H => ∃ G ρ2, Ex G1 G ∧ Ok Γ G H σ ρ2 ∧ J i ρ2) ⟨G1, ρ1, Ex.refl _, k1, i0⟩ (fun i σ H hi ⟨G2, ρ2, e2, k2, p2⟩ => by
          rw [Int.zero_add]
          exact (is i ρ2 hi p2).run k2 e1 e2 (.int _) hn hr fun _ _ h => h) (fun σ H ⟨G2, ρ2, e2, k2, p2⟩ => hn ρ2 σ G2 H (e1.trans e2) k2 (id ρ2 p2))⟩
theorem sw_forR2 {ta : TA} {g : TG} (h : AW Γ ta ρ fun ds ρ1 => ∃ lo n : Int, ds = [.int lo, .int n] ∧ (n ≤ 2 ^ 61 ∧ -(2 ^ 61) ≤ n ∧ lo ≤ 2 ^ 61 ∧ -(2 ^ 61) ≤ lo) ∧ ∃ J : Nat → Env → Prop, J 0 ρ1 ∧
    (∀ i ρ2, i < (n - lo).toNat → J i ρ2 → Turn1 Γ g ts Δ (.int (lo + i)) ρ2 (J (i + 1))) ∧ (∀ ρ2, J (n - lo).toNat ρ2 → Δ.nx ρ2)) : SW Γ (tFor (iRng2 ta) g ts) ρ Δ := fun σ G H D k hn hr hb hc =>
  h σ G H _ k fun ds ρ1 vs G1 H1 e1 k1 r1 ⟨lo, n, e, b1, J, i0, is, id⟩ => by
    subst e
    cases r1 with
    | cons r r' => cases r' with
      | cons r2 r' => cases r' with
        | nil =>
          cases r
          cases r2
          exact ⟨lo, n, rfl, by omega, for_range (lo := lo) (n := (n - lo).toNat) (fun i σ H => ∃ G ρ2, Ex G1 G ∧ Ok Γ G H σ ρ2 ∧ J i ρ2) ⟨G1, ρ1, Ex.refl _, k1, i0⟩ (fun i σ H hi ⟨G2, ρ2, e2, k2, p2⟩ =>
            (is i ρ2 hi p2).run k2 e1 e2 (.int _) hn hr fun _ _ h => h) (fun σ H ⟨G2, ρ2, e2, k2, p2⟩ => hn ρ2 σ G2 H (e1.trans e2) k2 (id ρ2 p2))⟩
/-- what a loop over a sequence asks -/
def Turns (Γ : Ctx) (g : TG) (ts : TS) (Δ : Fin) (ds : List D) (ρ1 : Env) : Prop := ∃ J : Nat → Env → Prop, J 0 ρ1 ∧ (∀ i x ρ2, ds[i]? = some x → J i ρ2 → Turn1 Γ g ts Δ x ρ2 (J (i + 1))) ∧ (∀ ρ2, J ds.length ρ2 → Δ.nx ρ2)
theorem sw_forT {g : TG} {K : PySem.W.Frag} (hK : K = Γ.K) (h : EW Γ te ρ fun d ρ1 => ∃ ds, d = .tup ds ∧ Turns Γ g ts Δ ds ρ1) : SW Γ (tFor (iTup K te) g ts) ρ Δ := fun σ G H D k hn hr hb hc =>
  h σ G H _ k fun d ρ1 v G1 H1 e1 k1 r1 ⟨ds, e, J, i0, is, id⟩ => by
    subst e
    subst hK
    cases r1 with
    | @tup a xs _ hq hs =>
      exact ⟨a, rfl, ⟨xs, sq_up k1.gh hq⟩, for_tup (xs := xs) (fun i σ H => ∃ G ρ2, Ex G1 G ∧ Ok Γ G H σ ρ2 ∧ J i ρ2) ⟨G1, ρ1, Ex.refl _, k1, i0⟩ (fun i σ H _ ⟨G2, ρ2, e2, k2, p2⟩ => sq_up (e2.trans k2.gh) hq) (fun i x σ H hi ⟨G2, ρ2, e2, k2, p2⟩ => by
        obtain ⟨y, hy, ry⟩ := hs.get hi
        exact (is i y ρ2 hy p2).run k2 e1 e2 (ry.mono e2) hn hr fun _ _ h => h) (fun σ H ⟨G2, ρ2, e2, k2, p2⟩ => hn ρ2 σ G2 H (e1.trans e2) k2 (id ρ2 (by rw [← hs.length]; exact p2)))⟩
theorem sw_forL {g : TG} {K : PySem.W.Frag} (hK : K = Γ.K) (h : EW Γ te ρ fun d ρ1 => ∃ ds, d = .lst ds ∧ Turns Γ g ts Δ ds ρ1) : SW Γ (tFor (iList K te) g ts) ρ Δ := fun σ G H D k hn hr hb hc =>
  h σ G H _ k fun d ρ1 v G1 H1 e1 k1 r1 ⟨ds, e, J, i0, is, id⟩ => by
    subst e
    subst hK
    cases r1 with
    | @lst a xs _ hq hs =>
      exact ⟨a, rfl, ⟨xs, Evl.ex_l k1.gh hq⟩, for_list (xs := xs) (fun i σ H => ∃ G ρ2, Ex G1 G ∧ Ok Γ G H σ ρ2 ∧ J i ρ2) ⟨G1, ρ1, Ex.refl _, k1, i0⟩ (fun i σ H _ ⟨G2, ρ2, e2, k2, p2⟩ => Evl.ex_l (e2.trans k2.gh) hq) (fun i x σ H hi ⟨G2, ρ2, e2, k2, p2⟩ => by
        obtain ⟨y, hy, ry⟩ := hs.get hi
        exact (is i y ρ2 hy p2).run k2 e1 e2 (ry.mono e2) hn hr fun _ _ h => h) (fun σ H ⟨G2, ρ2, e2, k2, p2⟩ => hn ρ2 σ G2 H (e1.trans e2) k2 (id ρ2 (by rw [← hs.length]; exact p2)))⟩

/-! ### list comprehensions -/
abbrev Ctx.ext (Γ : Ctx) (c : Addr × HO) : Ctx := { Γ with X := c :: Γ.X }
def wipeE (ρ : Env) : List Nat → Env
  | [] => ρ
  | v :: vs => (wipeE ρ vs).set v none
theorem Ok.wipe1 {G H : Hp} {σ : St} (k : Ok Γ G H σ ρ) (i : Nat) : Ok Γ G H (σ.set i none) (ρ.set i none) := by
  have back : ∀ j c, own (σ.set i none) (ρ.set i none) j c → own σ ρ j c := fun j c ⟨p, es, q⟩ => by
    by_cases hj : j = i
    · subst hj
      have hlt : j < ρ.length := by
        have := (List.getElem?_eq_some_iff.mp q).1
        rwa [List.length_set] at this
      rw [List.getElem?_set_self hlt] at q
      cases q
    · rw [List.getElem?_set_ne (Ne.symm hj)] at p q
      exact ⟨p, es, q⟩
  refine ⟨k.gh, k.g0, k.nw, k.fr, k.dm, k.res, k.rg, by rw [List.length_set, List.length_set]; exact k.len, fun j b h => ?_, fun j l c h1 h2 => k.dj j l c (back j c h1) (back l c h2), k.cel, fun j c h => k.nx j c (back j c h)⟩
  by_cases hj : j = i
  · subst hj
    have hlt : j < ρ.length := by
      have := (List.getElem?_eq_some_iff.mp h).1
      rwa [List.length_set] at this
    rw [List.getElem?_set_self hlt] at h
    cases h
  · rw [List.getElem?_set_ne (Ne.symm hj)] at h ⊢
    exact k.var j b h
theorem Ok.wipe {G H : Hp} {σ : St} (k : Ok Γ G H σ ρ) : ∀ vs : List Nat, Ok Γ G H (L2.wipe σ vs) (wipeE ρ vs)
  | [] => k
  | v :: vs => (Ok.wipe k vs).wipe1 v
/-- a further cell that stands -/
theorem Ok.ext {G H : Hp} {σ : St} {p : Addr} {o : HO} (k : Ok Γ G H σ ρ) (h1 : H p = some o) (h2 : G p = none) (h3 : ¬ Γ.R.F p) (h4 : ∀ i, ¬ own σ ρ i p) : Ok (Γ.ext (p, o)) G H σ ρ :=
  ⟨k.gh, k.g0, k.nw, k.fr, k.dm, k.res, k.rg, k.len, k.var, k.dj, fun q hq => by
    rcases List.mem_cons.mp hq with rfl | hq
    · exact ⟨h1, h2, h3⟩
    · exact k.cel q hq, fun i a h q hq => by
    rcases List.mem_cons.mp hq with rfl | hq
    · exact fun e => h4 i (by rw [show p = a from e]; exact h)
    · exact k.nx i a h q hq⟩
theorem Ok.unext {G H : Hp} {σ : St} {c : Addr × HO} (k : Ok (Γ.ext c) G H σ ρ) : Ok Γ G H σ ρ :=
  ⟨k.gh, k.g0, k.nw, k.fr, k.dm, k.res, k.rg, k.len, k.var, k.dj, fun q hq => k.cel q (List.mem_cons_of_mem _ hq), fun i a h q hq => k.nx i a h q (List.mem_cons_of_mem _ hq)⟩
/-- the comprehension's own list among the cells -/
structure Acc (Γ : Ctx) (G0 G H : Hp) (σ : St) (ρ : Env) (p : Addr) (acc : List V) : Prop where
  ok : Ok Γ G H σ ρ
  e : Ex G0 G
  h : H p = some (.lst acc)
  g : G p = none
  f : ¬ Γ.R.F p
  n : ∀ i, ¬ own σ ρ i p
  x : ∀ q ∈ Γ.X, q.1 ≠ p
  z : Γ.H p = none
theorem Ok.touch {G H : Hp} {σ : St} {p : Addr} {o : HO} (k : Ok Γ G H σ ρ) (hg : G p = none) (hf : ¬ Γ.R.F p) (hn : ∀ i, ¬ own σ ρ i p) (hx : ∀ q ∈ Γ.X, q.1 ≠ p) (hz : Γ.H p = none) : Ok Γ G (upd H p o) σ ρ := by
  refine ⟨fun a u h => by rw [upd_ne fun e => by rw [e, hg] at h; cases h]; exact k.gh a u h, k.g0, k.nw, fun a u h1 h2 => by rw [upd_ne fun e => by rw [e, hz] at h2; cases h2]; exact k.fr a u h1 h2, fun a h => by rw [upd_ne fun e => h (by rw [e]; exact hz)]; exact k.dm a h,
    Γ.R.st H _ k.res fun a h => upd_ne fun e => hf (e ▸ h), k.rg, k.len, fun j b h => ?_, k.dj, fun q hq => ?_, k.nx⟩
  · obtain ⟨v, h1, h2⟩ := k.var j b h
    refine ⟨v, h1, ?_⟩
    cases b with
    | fz d => exact h2
    | ow es =>
      obtain ⟨c, ys, rfl, q1, q2, q3, q4, q5⟩ := h2
      have hc : c ≠ p := fun e => hn j (by rw [← e]; exact ⟨h1, es, h⟩)
      exact ⟨c, ys, rfl, by rw [upd_ne hc]; exact q1, q2, q3, q4, q5⟩
  · obtain ⟨h1, h2, h3⟩ := k.cel q hq
    exact ⟨by rw [upd_ne (hx q hq)]; exact h1, h2, h3⟩
theorem Acc.app {G0 G H : Hp} {σ : St} {p : Addr} {acc : List V} (A : Acc Γ G0 G H σ ρ p acc) (y : V) : Acc Γ G0 G (upd H p (.lst (acc ++ [y]))) σ ρ p (acc ++ [y]) :=
  ⟨A.ok.touch A.g A.f A.n A.x A.z, A.e, upd_same, A.g, A.f, A.n, A.x, A.z⟩
theorem Acc.new {G H : Hp} {σ : St} {p : Addr} (k : Ok Γ G H σ ρ) (hp : H p = none) : Acc Γ G G (upd H p (.lst [])) σ ρ p [] := by
  have r := br_new (vs := []) (ds := []) k hp .nil
  obtain ⟨⟨a, xs, e, h1, h2, h3, h4, h5⟩, hn⟩ := r
  cases e
  exact ⟨k.newO hp, Ex.refl G, upd_same, h3, h4, (hn _ rfl p rfl).1, (hn _ rfl p rfl).2, h5⟩
theorem wipe_get {σ : St} {i : Nat} : ∀ {vs : List Nat}, i ∉ vs → (L2.wipe σ vs)[i]? = σ[i]?
  | [], _ => rfl
  | v :: vs, h => by
    show ((L2.wipe σ vs).set v none)[i]? = _
    rw [List.getElem?_set_ne (fun e => h (by rw [e]; exact List.mem_cons_self))]
    exact wipe_get fun q => h (List.mem_cons_of_mem _ q)
theorem wipeE_get {i : Nat} : ∀ {vs : List Nat}, i ∉ vs → (wipeE ρ vs)[i]? = ρ[i]?
  | [], _ => rfl
  | v :: vs, h => by
    show ((wipeE ρ vs).set v none)[i]? = _
    rw [List.getElem?_set_ne (fun e => h (by rw [e]; exact List.mem_cons_self))]
    exact wipeE_get fun q => h (List.mem_cons_of_mem _ q)
theorem wipe_len {σ : St} : ∀ {vs : List Nat}, (L2.wipe σ vs).length = σ.length
  | [] => rfl
  | v :: vs => by
    show ((L2.wipe σ vs).set v none).length = _
    rw [List.length_set]
    exact wipe_len
theorem wipeE_len : ∀ {vs : List Nat}, (wipeE ρ vs).length = ρ.length
  | [] => rfl
  | v :: vs => by
    show ((wipeE ρ vs).set v none).length = _
    rw [List.length_set]
    exact wipeE_len
theorem wipe_in {σ : St} {i : Nat} (hi : i < σ.length) : ∀ {vs : List Nat}, i ∈ vs → (L2.wipe σ vs)[i]? = some none
  | v :: vs, h => by
    show ((L2.wipe σ vs).set v none)[i]? = _
    by_cases e : i = v
    · subst e
      rw [List.getElem?_set_self (by rw [wipe_len]; exact hi)]
    · rw [List.getElem?_set_ne (Ne.symm e)]
      exact wipe_in hi ((List.mem_cons.mp h).resolve_left e)
/-- a target's names are the block's own -/
def GW (g : TG) (vs : List Nat) : Prop := ∀ σ v H (Q : St → Hp → Prop), g v σ H Q → g v σ H fun σ2 H2 => L2.wipe σ2 vs = L2.wipe σ vs ∧ Q σ2 H2
theorem wipe_set {σ : St} {j : Nat} {o : Option V} {vs : List Nat} (hj : j ∈ vs) : L2.wipe (σ.set j o) vs = L2.wipe σ vs := by
  apply List.ext_getElem?
  intro i
  by_cases hi : i ∈ vs
  · by_cases hl : i < σ.length
    · rw [wipe_in (by rw [List.length_set]; exact hl) hi, wipe_in hl hi]
    · rw [List.getElem?_eq_none (by rw [wipe_len, List.length_set]; omega), List.getElem?_eq_none (by rw [wipe_len]; omega)]
  · rw [wipe_get hi, wipe_get hi, List.getElem?_set_ne fun e => hi (by rw [← e]; exact hj)]
theorem wipe_wipe {σ : St} {vs : List Nat} : L2.wipe (L2.wipe σ vs) vs = L2.wipe σ vs := by
  apply List.ext_getElem?
  intro i
  by_cases hi : i ∈ vs
  · by_cases hl : i < σ.length
    · rw [wipe_in (by rw [wipe_len]; exact hl) hi, wipe_in hl hi]
    · rw [List.getElem?_eq_none (by rw [wipe_len, wipe_len]; omega), List.getElem?_eq_none (by rw [wipe_len]; omega)]
  · rw [wipe_get hi]
theorem gw_name {j : Nat} {vs : List Nat} (hj : j ∈ vs) : GW (gName j) vs := fun σ v H Q q => ⟨wipe_set hj, q⟩
theorem gw_gN {vs : List Nat} : ∀ {is : List Nat}, (∀ i ∈ is, i ∈ vs) → ∀ ds σ H (Q : St → Hp → Prop), gN is ds σ H Q → gN is ds σ H fun σ2 H2 => L2.wipe σ2 vs = L2.wipe σ vs ∧ Q σ2 H2
  | [], _, ds, σ, H, Q, ⟨e, q⟩ => ⟨e, rfl, q⟩
  | i :: is, h, ds, σ, H, Q, ⟨v, r, e, q⟩ => ⟨v, r, e, by
      have z := gw_gN (fun j hj => h j (List.mem_cons_of_mem _ hj)) r (σ.set i (some v)) H Q q
      rw [wipe_set (h i List.mem_cons_self)] at z
      exact z⟩
theorem gw_tup {K : PySem.W.Frag} {is : List Nat} {n : Nat} {g : TGs} {vs : List Nat} (hg : g = gN is) (h : ∀ i ∈ is, i ∈ vs) : GW (gTup K n g) vs := fun σ v H Q ⟨a, xs, e1, e2, e3, q⟩ => ⟨a, xs, e1, e2, e3, by
  subst hg
  exact gw_gN h xs σ H Q q⟩
/-- back from a block -/
theorem Ok.back {G G' H H' : Hp} {σ σ2 : St} {ρ2 : Env} {vs : List Nat} (k : Ok Γ G H σ ρ) (k2 : Ok Γ G' H' σ2 ρ2) (e : Ex G G') (h1 : L2.wipe σ2 vs = L2.wipe σ vs) (h2 : wipeE ρ2 vs = wipeE ρ vs) (h3 : ∀ j ∈ vs, ∀ ds, ρ[j]? ≠ some (some (.ow ds))) : Ok Γ G' H' σ ρ := by
  have hs : ∀ i, i ∉ vs → σ2[i]? = σ[i]? := fun i hi => by
    have z : (L2.wipe σ2 vs)[i]? = (L2.wipe σ vs)[i]? := by rw [h1]
    rw [wipe_get hi, wipe_get hi] at z
    exact z
  have hr : ∀ i, i ∉ vs → ρ2[i]? = ρ[i]? := fun i hi => by
    have z : (wipeE ρ2 vs)[i]? = (wipeE ρ vs)[i]? := by rw [h2]
    rw [wipeE_get hi, wipeE_get hi] at z
    exact z
  have back : ∀ i a, own σ ρ i a → own σ2 ρ2 i a := fun i a ⟨p, ds, q⟩ => by
    have hi : i ∉ vs := fun hi => h3 i hi ds q
    exact ⟨by rw [hs i hi]; exact p, ds, by rw [hr i hi]; exact q⟩
  refine ⟨k2.gh, k2.g0, k2.nw, k2.fr, k2.dm, k2.res, k2.rg, k.len, fun i b h => ?_, fun i j a h1 h2 => k2.dj i j a (back i a h1) (back j a h2), k2.cel, fun i a h => k2.nx i a (back i a h)⟩
  by_cases hi : i ∈ vs
  · obtain ⟨v, g1, g2⟩ := k.var i b h
    refine ⟨v, g1, ?_⟩
    cases b with
    | fz d => exact Rep.mono e g2
    | ow ds => exact absurd h (h3 i hi ds)
  · obtain ⟨v, g1, g2⟩ := k2.var i b (by rw [hr i hi]; exact h)
    exact ⟨v, by rw [← hs i hi]; exact g1, g2⟩
/-- one turn of a comprehension -/
def Comp1 (Γ : Ctx) (g : TG) (vs : List Nat) (tt : TT) (te : TE) (ρ : Env) (x : D) (yes : D → Prop) (no : Prop) : Prop :=
  ∃ ρ2, GD Γ g x (wipeE ρ vs) ρ2 ∧ wipeE ρ2 vs = wipeE ρ vs ∧ TW Γ tt ρ2 fun b ρ3 => ρ3 = ρ2 ∧ (b = true → EW Γ te ρ2 fun y ρ4 => ρ4 = ρ2 ∧ yes y) ∧ (b = false → no)
theorem Comp1.run {g : TG} {vs : List Nat} {x : D} {G0 G H : Hp} {σ : St} {p : Addr} {acc : List V} {ds : List D} {v : V} {J : List D → Prop} {Nx : Hp → Prop}
    (c : ∀ c, Comp1 (Γ.ext c) g vs tt te ρ x (fun y => J (ds ++ [y])) (J ds)) (gw : GW g vs) (hv : ∀ j ∈ vs, ∀ ds, ρ[j]? ≠ some (some (.ow ds))) (A : Acc Γ G0 G H σ ρ p acc) (ra : RepL Γ.K G acc ds) (rx : Rep Γ.K G v x) (hl : acc.length < 100000)
    (hN : ∀ H', (∃ G' acc' ds', Acc Γ G0 G' H' σ ρ p acc' ∧ RepL Γ.K G' acc' ds' ∧ J ds' ∧ acc'.length ≤ acc.length + 1) → Nx H') :
    g v (L2.wipe σ vs) H fun σ2 H2 => L2.wipe σ2 vs = L2.wipe σ vs ∧ tt σ2 H2 fun b H3 => if b = true then te σ2 H3 fun y H4 => ∃ acc, H4 p = some (.lst acc) ∧ acc.length < sizeLine ∧ Nx (upd H4 p (.lst (acc ++ [y]))) else Nx H3 := by
  obtain ⟨ρ2, g2, w2, t2⟩ := c (p, .lst acc)
  have kE : Ok (Γ.ext (p, .lst acc)) G H σ ρ := A.ok.ext A.h A.g A.f A.n
  have kW := kE.wipe vs
  have fin : ∀ {G' H' : Hp} {σ2 : St}, L2.wipe σ2 vs = L2.wipe σ vs → Ok (Γ.ext (p, .lst acc)) G' H' σ2 ρ2 → Ex G G' → Acc Γ G0 G' H' σ ρ p acc := fun {G' H' σ2} hw k e => by
    have kb : Ok (Γ.ext (p, .lst acc)) G' H' σ ρ := kE.back k e hw w2 hv
    obtain ⟨c1, c2, c3⟩ := kb.cel _ List.mem_cons_self
    exact ⟨kb.unext, A.e.trans e, c1, c2, c3, A.n, A.x, A.z⟩
  have z := g2 (L2.wipe σ vs) G H v (fun σ2 H2 => L2.wipe σ2 vs = L2.wipe σ vs → tt σ2 H2 fun b H3 => if b = true then te σ2 H3 fun y H4 => ∃ acc, H4 p = some (.lst acc) ∧ acc.length < sizeLine ∧ Nx (upd H4 p (.lst (acc ++ [y]))) else Nx H3) kW rx fun σ2 k2 hw =>
    t2 σ2 G H _ k2 fun b ρ3 G3 H3 e3 k3 ⟨er, py, pn⟩ => by
      subst er
      cases b with
      | true => exact iteT (py rfl σ2 G3 H3 _ k3 fun y ρ4 w G4 H4 e4 k4 r4 ⟨er, j⟩ => by
          subst er
          have A4 := fin hw k4 (e3.trans e4)
          exact ⟨acc, A4.h, Evl.sz_lt hl, hN _ ⟨G4, _, _, A4.app w, (ra.mono (e3.trans e4)).append (.cons r4 .nil), j, by rw [List.length_append]; exact Nat.le_refl _⟩⟩)
      | false => exact iteF (hN _ ⟨G3, _, _, fin hw k3 e3, ra.mono e3, pn rfl, Nat.le_succ _⟩)
  have z2 := gw _ _ _ _ z
  refine cast ?_ z2
  congr 1
  funext σ2 H2
  rw [wipe_wipe]
  exact propext ⟨fun h => ⟨h.1, h.2 h.1⟩, fun h => ⟨h.1, fun _ => h.2⟩⟩
/-- what a comprehension over a sequence asks -/
def Comp (Γ : Ctx) (g : TG) (vs : List Nat) (tt : TT) (te : TE) (ds : List D) (ρ1 : Env) (Ψ : B → Env → Prop) : Prop := GW g vs ∧ (∀ j ∈ vs, ∀ es, ρ1[j]? ≠ some (some (.ow es))) ∧ ds.length ≤ 99999 ∧
  ∃ J : Nat → List D → Prop, J 0 [] ∧ (∀ i x acc c, ds[i]? = some x → J i acc → Comp1 (Γ.ext c) g vs tt te ρ1 x (fun y => J (i + 1) (acc ++ [y])) (J (i + 1) acc)) ∧ ∀ acc, J ds.length acc → Ψ (.ow (.lst acc)) ρ1
theorem acc_br {G0 G H : Hp} {σ : St} {p : Addr} {acc : List V} {ds : List D} (A : Acc Γ G0 G H σ ρ p acc) (r : RepL Γ.K G acc ds) : BR Γ G H σ ρ (.ref p) (.ow (.lst ds)) :=
  ⟨⟨p, .lst acc, rfl, A.h, .lst r, A.g, A.f, A.z⟩, fun es _ a e => by
    cases e
    exact ⟨A.n, A.x⟩⟩
theorem eb_lcT {K : PySem.W.Frag} {g : TG} {vs : List Nat} {te0 : TE} (hK : K = Γ.K) (h : EW Γ te0 ρ fun d ρ1 => ∃ ds, d = .tup ds ∧ Comp Γ g vs tt te ds ρ1 Ψ) : EB Γ (tLc (iTup K te0) g tt te vs) ρ Ψ := fun σ G H Q k q =>
  h σ G H _ k fun d ρ1 v G1 H1 e1 k1 r1 ⟨ds, e, gw, hv, hl, J, j0, js, jd⟩ => by
    subst e
    subst hK
    cases r1 with
    | @tup a xs _ hq hs =>
      exact ⟨a, rfl, ⟨xs, sq_up k1.gh hq⟩, fun p hp => lc_tup (xs := xs) (fun i H => ∃ G acc ds, Acc Γ G1 G H σ ρ1 p acc ∧ RepL Γ.K G acc ds ∧ J i ds ∧ acc.length ≤ i) ⟨G1, [], [], Acc.new k1 hp, .nil, j0, Nat.le_refl _⟩ (fun i H _ ⟨G2, acc, es, A, _⟩ => sq_up (A.e.trans A.ok.gh) hq)
        (fun i x H hi ⟨G2, acc, es, A, ra, j, la⟩ => by
          obtain ⟨y, hy, ry⟩ := hs.get hi
          have hlt : i < ds.length := (List.getElem?_eq_some_iff.mp hy).1
          exact Comp1.run (fun c => js i y es c hy j) gw hv A ra (ry.mono A.e) (by omega) fun H' ⟨G', acc', ds', A', r', j', l'⟩ => ⟨G', acc', ds', A', r', j', by omega⟩)
        (fun H ⟨G2, acc, es, A, ra, j, la⟩ => q _ ρ1 _ G2 H (e1.trans A.e) A.ok (acc_br A ra) (jd es (by rw [← hs.length]; exact j)))⟩
theorem eb_lcL {K : PySem.W.Frag} {g : TG} {vs : List Nat} {te0 : TE} (hK : K = Γ.K) (h : EW Γ te0 ρ fun d ρ1 => ∃ ds, d = .lst ds ∧ Comp Γ g vs tt te ds ρ1 Ψ) : EB Γ (tLc (iList K te0) g tt te vs) ρ Ψ := fun σ G H Q k q =>
  h σ G H _ k fun d ρ1 v G1 H1 e1 k1 r1 ⟨ds, e, gw, hv, hl, J, j0, js, jd⟩ => by
    subst e
    subst hK
    cases r1 with
    | @lst a xs _ hq hs =>
      exact ⟨a, rfl, ⟨xs, Evl.ex_l k1.gh hq⟩, fun p hp => lc_list (xs := xs) (fun i H => ∃ G acc ds, Acc Γ G1 G H σ ρ1 p acc ∧ RepL Γ.K G acc ds ∧ J i ds ∧ acc.length ≤ i) ⟨G1, [], [], Acc.new k1 hp, .nil, j0, Nat.le_refl _⟩ (fun i H _ ⟨G2, acc, es, A, _⟩ => Evl.ex_l (A.e.trans A.ok.gh) hq)
        (fun i x H hi ⟨G2, acc, es, A, ra, j, la⟩ => by
          obtain ⟨y, hy, ry⟩ := hs.get hi
          have hlt : i < ds.length := (List.getElem?_eq_some_iff.mp hy).1
          exact Comp1.run (fun c => js i y es c hy j) gw hv A ra (ry.mono A.e) (by omega) fun H' ⟨G', acc', ds', A', r', j', l'⟩ => ⟨G', acc', ds', A', r', j', by omega⟩)
        (fun H ⟨G2, acc, es, A, ra, j, la⟩ => q _ ρ1 _ G2 H (e1.trans A.e) A.ok (acc_br A ra) (jd es (by rw [← hs.length]; exact j)))⟩
def rngD (n : Nat) : List D := (List.range n).map fun (i : Nat) => D.int (i : Int)
theorem rngD_get {n i : Nat} (h : i < n) : (rngD n)[i]? = some (.int (i : Int)) := by
  unfold rngD
  rw [List.getElem?_map, List.getElem?_range h]
  rfl
theorem rngD_len {n : Nat} : (rngD n).length = n := by
  unfold rngD
  rw [List.length_map, List.length_range]
theorem eb_lcR {g : TG} {vs : List Nat} {ta : TA} (h : AW Γ ta ρ fun ds ρ1 => ∃ n : Int, ds = [.int n] ∧ -100 ≤ n ∧ Comp Γ g vs tt te (rngD n.toNat) ρ1 Ψ) : EB Γ (tLc (iRng1 ta) g tt te vs) ρ Ψ := fun σ G H Q k q =>
  h σ G H _ k fun d ρ1 v G1 H1 e1 k1 r1 ⟨n, e, bn, gw, hv, hl, J, j0, js, jd⟩ => by
    subst e
    rw [rngD_len] at hl jd
    cases r1 with
    | cons r r' => cases r' with
      | nil =>
        cases r
        exact ⟨n, rfl, by omega, by omega, fun p hp => lc_range (lo := 0) (n := n.toNat) (fun i H => ∃ G acc ds, Acc Γ G1 G H σ ρ1 p acc ∧ RepL Γ.K G acc ds ∧ J i ds ∧ acc.length ≤ i) ⟨G1, [], [], Acc.new k1 hp, .nil, j0, Nat.le_refl _⟩
          (fun i H hi ⟨G2, acc, es, A, ra, j, la⟩ => by
            rw [Int.zero_add]
            exact Comp1.run (fun c => js i _ es c (rngD_get hi) j) gw hv A ra (.int _) (by omega) fun H' ⟨G', acc', ds', A', r', j', l'⟩ => ⟨G', acc', ds', A', r', j', by omega⟩)
          (fun H ⟨G2, acc, es, A, ra, j, la⟩ => q _ ρ1 _ G2 H (e1.trans A.e) A.ok (acc_br A ra) (jd es j))⟩
theorem tw_yes (p : Θ true ρ) : TW Γ tYes ρ Θ := fun σ G H Q k q => q true ρ G H (Ex.refl G) k p

/-! ### built-ins by values -/
/-- a call of a built-in that makes nothing -/
def CbV (Γ : Ctx) (r : List V → Hp → VK → Prop) (ds : List D) (z : D) : Prop := ∀ G H vs (Q : VK), Ex G H → RepL Γ.K G vs ds → (∀ v, Rep Γ.K G v z → Q v H) → r vs H Q
theorem ew_cb {r : List V → Hp → VK → Prop} {ts : TA} (h : AW Γ ts ρ fun ds ρ1 => ∃ z, CbV Γ r ds z ∧ Φ z ρ1) : EW Γ (tCB r ts) ρ Φ := fun σ G H Q k q =>
  h σ G H _ k fun ds ρ1 vs G1 H1 e1 k1 r1 ⟨z, hz, p⟩ => hz G1 H1 vs Q k1.gh r1 fun v rv => q z ρ1 v G1 H1 e1 k1 rv p
theorem cbv_abs {i : Int} : CbV Γ (fun xs H Q => ∃ i, xs = [.int i] ∧ Q (.int (if i < 0 then -i else i)) H) [.int i] (.int (if i < 0 then -i else i)) := fun G H vs Q e r q => by
  cases r with
  | cons r r' => cases r' with
    | nil => cases r; exact ⟨i, rfl, q _ (.int _)⟩
theorem cbv_int {i : Int} : CbV Γ (fun xs H Q => (∃ i, xs = [.int i] ∧ Q (.int i) H) ∨ ∃ k, xs = [.bl k] ∧ Q (.int (if k then 1 else 0)) H) [.int i] (.int i) := fun G H vs Q e r q => by
  cases r with
  | cons r r' => cases r' with
    | nil => cases r; exact .inl ⟨i, rfl, q _ (.int _)⟩
theorem cbv_int2 {f : Int → Int → Int} {i j : Int} : CbV Γ (fun xs H Q => ∃ i j, xs = [.int i, .int j] ∧ Q (.int (f i j)) H) [.int i, .int j] (.int (f i j)) := fun G H vs Q e r q => by
  cases r with
  | cons r r' => cases r' with
    | cons r2 r' => cases r' with
      | nil => cases r; cases r2; exact ⟨i, j, rfl, q _ (.int _)⟩
theorem cbv_strI {i : Int} (h : i.natAbs.log2 < 1920) : CbV Γ (fun xs H Q => ∃ i, xs = [.int i] ∧ i.natAbs.log2 < 1920 ∧ Q (.str (toString i)) H) [.int i] (.str (toString i)) := fun G H vs Q e r q => by
  cases r with
  | cons r r' => cases r' with
    | nil => cases r; exact ⟨i, rfl, h, q _ (.str _)⟩
theorem seq_of {K : PySem.W.Frag} {G H : Hp} {a : Addr} {xs : List V} (e : Ex G H) (h : SqL K G a xs) : SqL K H a xs := Evl.ex_l e h
theorem cbv_lenT {K : PySem.W.Frag} {ds : List D} (hK : K = Γ.K) : CbV Γ (fun xs H Q => ∃ p ys, xs = [.ref p] ∧ (SqL K H p ys ∨ SqT K H p ys) ∧ Q (.int ys.length) H) [.tup ds] (.int ds.length) := fun G H vs Q e r q => by
  subst hK
  cases r with
  | cons r r' => cases r' with
    | nil => cases r with
      | @tup a xs _ h hs => exact ⟨a, xs, rfl, .inr (sq_up e h), q _ (by rw [hs.length]; exact .int _)⟩
theorem cbv_lenL {K : PySem.W.Frag} {ds : List D} (hK : K = Γ.K) : CbV Γ (fun xs H Q => ∃ p ys, xs = [.ref p] ∧ (SqL K H p ys ∨ SqT K H p ys) ∧ Q (.int ys.length) H) [.lst ds] (.int ds.length) := fun G H vs Q e r q => by
  subst hK
  cases r with
  | cons r r' => cases r' with
    | nil => cases r with
      | @lst a xs _ h hs => exact ⟨a, xs, rfl, .inl (seq_of e h), q _ (by rw [hs.length]; exact .int _)⟩
theorem cbv_all {K : PySem.W.Frag} {bs : List Bool} (hK : K = Γ.K) : CbV Γ (rAll K) [.lst (bs.map D.bl)] (.bl (bs.all id)) := fun G H vs Q e r q => by
  subst hK
  cases r with
  | cons r r' => cases r' with
    | nil => cases r with
      | @lst a xs _ h hs => exact ⟨a, bs, rfl, by rw [← hs.bls]; exact seq_of e h, q _ (.bl _)⟩
theorem cbv_any {K : PySem.W.Frag} {bs : List Bool} (hK : K = Γ.K) : CbV Γ (rAny K) [.lst (bs.map D.bl)] (.bl (bs.any id)) := fun G H vs Q e r q => by
  subst hK
  cases r with
  | cons r r' => cases r' with
    | nil => cases r with
      | @lst a xs _ h hs => exact ⟨a, bs, rfl, by rw [← hs.bls]; exact seq_of e h, q _ (.bl _)⟩
theorem cbv_sum {K : PySem.W.Frag} {ns : List Int} (hK : K = Γ.K) : CbV Γ (rSum K) [.lst (ns.map D.int)] (.int ns.sum) := fun G H vs Q e r q => by
  subst hK
  cases r with
  | cons r r' => cases r' with
    | nil => cases r with
      | @lst a xs _ h hs => exact ⟨a, ns, rfl, by rw [← hs.ints]; exact seq_of e h, q _ (.int _)⟩
/-! isinstance -/
def tyN : D → Option String
  | .non => some "NoneType"
  | .bl _ => some "bool"
  | .int _ => some "int"
  | .str _ => some "str"
  | .tup _ => some "tuple"
  | .lst _ => some "list"
  | _ => none
theorem tyX_of {K : PySem.W.Frag} {G H : Hp} {v : V} {d : D} {t : String} (e : Ex G H) (r : Rep K G v d) (h : tyN d = some t) : TyX K H v (.type t) := by
  cases r with
  | non => cases h; exact .base .non
  | bl b => cases h; exact .base (.bl b)
  | int i => cases h; exact .base (.int i)
  | str x => cases h; exact .base (.str x)
  | tup hq _ =>
    cases h
    rcases hq with hq | ⟨o, its, n, h1, h2, _⟩
    · rcases hq with hq | ⟨o, hq⟩
      · exact .base (.tup (e _ _ hq))
      · exact .fTuple (e _ _ hq)
    · exact .kTuple h1 h2
  | lst hq _ =>
    cases h
    rcases hq with hq | ⟨o, its, n, h1, h2, _⟩
    · rcases hq with hq | ⟨o, hq⟩
      · exact .base (.lst (e _ _ hq))
      · exact .base (.frz (e _ _ hq))
    · exact .kList h1 h2
  | obj _ _ => cases h
  | ptr a => cases h
  | err _ _ => cases h
  | dct _ _ => cases h
/-- isinstance(e, T) -/
theorem ew_isi {K : PySem.W.Frag} {n : String} (hK : K = Γ.K) (h : EW Γ te ρ fun d ρ1 => ∃ t b, tyN d = some t ∧ kitB t n = some b ∧ Φ (.bl b) ρ1) : EW Γ (tCB (rIsi K) (tCons te (tCons (tC (.ty n)) tNil))) ρ Φ := fun σ G H Q k q =>
  h σ G H _ k fun d ρ1 v G1 H1 e1 k1 r1 ⟨t, b, ht, hb, p⟩ => by
    subst hK
    exact ⟨v, .ty n, .type t, .type n, b, rfl, .ty n, tyX_of k1.gh r1 ht, kit_ty hb, q _ ρ1 _ G1 H1 e1 k1 (.bl _) p⟩
/-- of an object of an own class: by kitOne -/
structure ObjTy (K : PySem.W.Frag) (C : Addr) : Prop where
  cl : Cls K C
  ha : PySem.W.findIn K (.ref C) "__class__" = some (some (.builtin "object.__class__"))
  hn : PySem.W.specialIn K (.builtin "object.__class__") "__get__" = some (some (.builtin "getset_descriptor.__get__"))
  htk : PySem.W.takesIn K (.builtin "object.__class__") = some true
  hm : PySem.W.mroIn K C (.type "object") = some true
theorem ew_isiO {K : PySem.W.Frag} {n : String} (hK : K = Γ.K) (h : EW Γ te ρ fun d ρ1 => ∃ C fs b, d = .obj C fs ∧ ObjTy K C ∧ PySem.W.kitOne K (.ref C) (.type n) = some b ∧ Φ (.bl b) ρ1) : EW Γ (tCB (rIsi K) (tCons te (tCons (tC (.ty n)) tNil))) ρ Φ := fun σ G H Q k q =>
  h σ G H _ k fun d ρ1 v G1 H1 e1 k1 r1 ⟨C, fs, b, hd, T, hb, p⟩ => by
    subst hK
    subst hd
    cases r1 with
    | obj hq hs => exact ⟨_, .ty n, .ref C, .type n, b, rfl, .ty n, .base (.ins (k1.gh _ _ hq) T.cl T.ha T.hn T.htk T.hm), hb, q _ ρ1 _ G1 H1 e1 k1 (.bl _) p⟩
/-- isinstance(e, (T, U)) -/
theorem ew_isi2 {K : PySem.W.Frag} {n m : String} (hK : K = Γ.K) (h : EW Γ te ρ fun d ρ1 => ∃ t b c, tyN d = some t ∧ kitB t n = some b ∧ kitB t m = some c ∧ Φ (.bl (b || c)) ρ1) : EW Γ (tCB (rIsiT K) (tCons te (tCons (tTup (tCons (tC (.ty n)) (tCons (tC (.ty m)) tNil))) tNil))) ρ Φ := fun σ G H Q k q =>
  h σ G H _ k fun d ρ1 v G1 H1 e1 k1 r1 ⟨t, b, c, ht, hb, hc, p⟩ => by
    subst hK
    refine ⟨by show 2 ≤ sizeLine; decide, fun a ha => ?_⟩
    obtain ⟨k2, e2⟩ := k1.new (o := .tup [.ty n, .ty m]) ha
    refine ⟨v, a, [.ty n, .ty m], .type t, [.type n, .type m], b || c, rfl, upd_same, .cons (.ty n) (.cons (.ty m) .nil), tyX_of k2.gh (r1.mono e2) ht, ?_, q _ ρ1 _ _ _ (e1.trans e2) k2 (.bl _) p⟩
    refine kitAny_cons (kit_ty hb) (fun z => ?_) (fun z => by rw [z]; rfl)
    subst z
    exact kitAny_cons (kit_ty hc) (fun z => by rw [z]; exact kitAny_nil) (fun z => by rw [z]; rfl)
/-! subscripts -/
theorem opv_ixT {K : PySem.W.Frag} {ds : List D} {i : Int} {x : D} (hK : K = Γ.K) (h : atI ds i = some x) : OpV Γ (rIxT K) (.tup ds) (.int i) x := fun G H vx vy Q e hx hy q => by
  subst hK
  cases hy
  cases hx with
  | @tup a xs _ hq hs =>
    unfold atI at h
    cases hj : ixN ds.length i with
    | none =>
      rw [hj] at h
      cases h
    | some j =>
      rw [hj] at h
      obtain ⟨v, hv, rv⟩ := hs.getD (i := j) (d := x) h
      exact ⟨a, xs, i, v, rfl, rfl, sq_up e hq, by unfold atI; rw [hs.length, hj]; exact hv, q v rv⟩
theorem opv_ixL {K : PySem.W.Frag} {ds : List D} {i : Int} {x : D} (hK : K = Γ.K) (h : atI ds i = some x) : OpV Γ (rIxL K) (.lst ds) (.int i) x := fun G H vx vy Q e hx hy q => by
  subst hK
  cases hy
  cases hx with
  | @lst a xs _ hq hs =>
    unfold atI at h
    cases hj : ixN ds.length i with
    | none =>
      rw [hj] at h
      cases h
    | some j =>
      rw [hj] at h
      obtain ⟨v, hv, rv⟩ := hs.getD (i := j) (d := x) h
      exact ⟨a, xs, i, v, rfl, rfl, seq_of e hq, by unfold atI; rw [hs.length, hj]; exact hv, q v rv⟩
theorem at_nat {ds : List D} {j : Nat} {x : D} (h : ds[j]? = some x) : atI ds (j : Int) = some x := atI_nat h
/-- xs[e], xs a slot's own list -/
theorem ew_ixO {K : PySem.W.Frag} {l : Nat} {ds0 : List D} (hK : K = Γ.K) (h0 : ρ[l]? = some (some (.ow (.lst ds0)))) (h : EW Γ te ρ fun d ρ1 => ∃ i ds x, d = .int i ∧ ρ1[l]? = some (some (.ow (.lst ds))) ∧ atI ds i = some x ∧ Φ x ρ1) : EW Γ (tOp (rIxL K) (tVar l) te) ρ Φ := fun σ G H Q k q => by
  subst hK
  obtain ⟨v0, g0, _⟩ := k.var l _ h0
  refine ⟨v0, g0, ?_⟩
  refine h σ G H _ k fun d ρ1 v G1 H1 e1 k1 r1 ⟨i, ds, x, hd, hl, ha, p⟩ => ?_
  subst hd
  cases r1
  obtain ⟨a, xs, h1, g1, g2⟩ := k1.lst hl
  rw [g0] at h1
  cases h1
  unfold atI at ha
  cases hj : ixN ds.length i with
  | none =>
    rw [hj] at ha
    cases ha
  | some j =>
    rw [hj] at ha
    obtain ⟨v, hv, rv⟩ := g2.getD (i := j) (d := x) ha
    exact ⟨a, xs, i, v, rfl, rfl, SqL.of g1, by unfold atI; rw [g2.length, hj]; exact hv, q x ρ1 v G1 H1 e1 k1 rv p⟩
/-! a slot's own list -/
theorem ew_lenO {K : PySem.W.Frag} {l : Nat} {ds : List D} (hK : K = Γ.K) (h : ρ[l]? = some (some (.ow (.lst ds)))) (p : Φ (.int ds.length) ρ) : EW Γ (tCB (fun xs H Q => ∃ p ys, xs = [.ref p] ∧ (SqL K H p ys ∨ SqT K H p ys) ∧ Q (.int ys.length) H) (tCons (tVar l) tNil)) ρ Φ := fun σ G H Q k q => by
  subst hK
  obtain ⟨a, xs, h1, g1, g2⟩ := k.lst h
  exact ⟨_, h1, a, xs, rfl, .inl (SqL.of g1), by rw [g2.length]; exact q _ ρ _ G H (Ex.refl G) k (.int _) p⟩
/-- x.append(e) -/
theorem sw_app {K : PySem.W.Frag} {l : Nat} {ds0 : List D} (h0 : ρ[l]? = some (some (.ow (.lst ds0)))) (h : EW Γ te ρ fun d ρ1 => ∃ ds, ρ1[l]? = some (some (.ow (.lst ds))) ∧ ds.length < 100000 ∧ Δ.nx (ρ1.set l (some (.ow (.lst (ds ++ [d])))))) : SW Γ (tDrop (tBM K "list" rAppend (tVar l) (tCons te tNil))) ρ Δ := fun σ G H D k hn hr hb hc => by
  obtain ⟨a, xs, g0, g1, _⟩ := k.lst h0
  refine ⟨_, g0, .inl ⟨rfl, _, SqL.of g1⟩, ?_⟩
  refine h σ G H _ k fun d ρ1 v G1 H1 e1 k1 r1 ⟨ds, hl, hz, p⟩ => ?_
  obtain ⟨a', xs', h1, q1, q2⟩ := k1.lst hl
  rw [g0] at h1
  cases h1
  exact ⟨a, xs', v, rfl, rfl, q1, by rw [q2.length]; exact Evl.sz_lt hz, hn _ σ G1 _ e1 (k1.mut hl g0 (.lst (q2.append (.cons r1 .nil)))) p⟩
/-- x[i] = e -/
theorem sw_setO {l : Nat} {ti : TE} {ds0 : List D} (h0 : ρ[l]? = some (some (.ow (.lst ds0)))) (h : EW Γ te ρ fun d ρ1 => EW Γ ti ρ1 fun i ρ2 => ∃ n j ds, i = .int n ∧ ρ1[l]? = some (some (.ow (.lst ds0))) ∧ ρ2[l]? = some (some (.ow (.lst ds))) ∧ ixN ds.length n = some j ∧ Δ.nx (ρ2.set l (some (.ow (.lst (ds.set j d)))))) : SW Γ (tAsg te (gSub (tVar l) ti rSetL)) ρ Δ := fun σ G H D k hn hr hb hc => by
  obtain ⟨a, xs, g0, g1, _⟩ := k.lst h0
  refine h σ G H _ k fun d ρ1 v G1 H1 e1 k1 r1 h1 => ?_
  refine ⟨_, g0, ?_⟩
  refine h1 σ G1 H1 _ k1 fun i ρ2 vi G2 H2 e2 k2 r2 ⟨n, j, ds, hi, _, hl, hj, p⟩ => ?_
  subst hi
  cases r2
  obtain ⟨a', xs', h1, q1, q2⟩ := k2.lst hl
  rw [g0] at h1
  cases h1
  exact ⟨a, xs', n, j, rfl, rfl, q1, by rw [q2.length]; exact hj, hn _ σ G2 _ (e1.trans e2) (k2.mut hl g0 (.lst (RepL.set (r1.mono e2) j q2))) p⟩
theorem sw_aug {i : Nat} {f : Int → Int → Int} (h : ∃ a, ρ[i]? = some (some (.fz (.int a))) ∧ EW Γ te ρ fun d ρ1 => ∃ b, d = .int b ∧ Δ.nx (ρ1.set i (some (.fz (.int (f a b)))))) : SW Γ (tAug i te (ipI f)) ρ Δ := fun σ G H D k hn hr hb hc => by
  obtain ⟨a, ha, h⟩ := h
  obtain ⟨v0, g0, r0⟩ := k.var i _ ha
  refine ⟨v0, g0, ?_⟩
  have r0' : Rep Γ.K G v0 (.int a) := r0
  cases r0'
  refine h σ G H _ k fun d ρ1 v G1 H1 e1 k1 r1 ⟨b, hd, p⟩ => ?_
  subst hd
  cases r1
  exact ⟨a, b, rfl, rfl, hn _ _ G1 H1 e1 (k1.store (.fz (Rep.int _))) p⟩

/-! new objects of built-ins -/
/-- tuple(e), e a list that never changes any more -/
theorem ew_tupL {K : PySem.W.Frag} (hK : K = Γ.K) (h : EW Γ te ρ fun d ρ1 => ∃ ds, d = .lst ds ∧ Φ (.tup ds) ρ1) : EW Γ (tCB (fun xs H Q => ∃ p ys, xs = [.ref p] ∧ ((SqL K H p ys ∧ ∀ l, H l = none → Q (.ref l) (upd H l (.tup ys))) ∨ (SqT K H p ys ∧ Q (.ref p) H))) (tCons te tNil)) ρ Φ := fun σ G H Q k q =>
  h σ G H _ k fun d ρ1 v G1 H1 e1 k1 r1 ⟨ds, e, p⟩ => by
    subst hK
    subst e
    cases r1 with
    | @lst a xs _ hq hs =>
      refine ⟨a, xs, rfl, .inl ⟨seq_of k1.gh hq, fun l hl => ?_⟩⟩
      obtain ⟨k2, e2⟩ := k1.new (o := .tup xs) hl
      exact q _ ρ1 _ _ _ (e1.trans e2) k2 (.tup (SqT.of upd_same) (hs.mono e2)) p
theorem ew_tupT {K : PySem.W.Frag} (hK : K = Γ.K) (h : EW Γ te ρ fun d ρ1 => ∃ ds, d = .tup ds ∧ Φ (.tup ds) ρ1) : EW Γ (tCB (fun xs H Q => ∃ p ys, xs = [.ref p] ∧ ((SqL K H p ys ∧ ∀ l, H l = none → Q (.ref l) (upd H l (.tup ys))) ∨ (SqT K H p ys ∧ Q (.ref p) H))) (tCons te tNil)) ρ Φ := fun σ G H Q k q =>
  h σ G H _ k fun d ρ1 v G1 H1 e1 k1 r1 ⟨ds, e, p⟩ => by
    subst hK
    subst e
    cases r1 with
    | @tup a xs _ hq hs => exact ⟨a, xs, rfl, .inr ⟨sq_up k1.gh hq, q _ ρ1 _ _ _ e1 k1 (.tup hq hs) p⟩⟩
/-- tuple(x), x a slot's own list -/
theorem ew_tupO {K : PySem.W.Frag} {l : Nat} {ds : List D} (hK : K = Γ.K) (h : ρ[l]? = some (some (.ow (.lst ds)))) (p : Φ (.tup ds) ρ) : EW Γ (tCB (fun xs H Q => ∃ p ys, xs = [.ref p] ∧ ((SqL K H p ys ∧ ∀ l, H l = none → Q (.ref l) (upd H l (.tup ys))) ∨ (SqT K H p ys ∧ Q (.ref p) H))) (tCons (tVar l) tNil)) ρ Φ := fun σ G H Q k q => by
  subst hK
  obtain ⟨a, xs, h1, g1, g2⟩ := k.lst h
  refine ⟨_, h1, a, xs, rfl, .inl ⟨SqL.of g1, fun m hm => ?_⟩⟩
  obtain ⟨k2, e2⟩ := k.new (o := .tup xs) hm
  exact q _ ρ _ _ _ e2 k2 (.tup (SqT.of upd_same) (g2.mono e2)) p
/-- list(e) -/
theorem eb_listL {K : PySem.W.Frag} (hK : K = Γ.K) (h : EW Γ te ρ fun d ρ1 => ∃ ds, (d = .lst ds ∨ d = .tup ds) ∧ Ψ (.ow (.lst ds)) ρ1) : EB Γ (tCB (fun xs H Q => ∃ p ys, xs = [.ref p] ∧ (SqL K H p ys ∨ SqT K H p ys) ∧ ∀ l, H l = none → Q (.ref l) (upd H l (.lst ys))) (tCons te tNil)) ρ Ψ := fun σ G H Q k q =>
  h σ G H _ k fun d ρ1 v G1 H1 e1 k1 r1 ⟨ds, e, p⟩ => by
    subst hK
    rcases e with e | e
    · subst e
      cases r1 with
      | @lst a xs _ hq hs => exact ⟨a, xs, rfl, .inl (seq_of k1.gh hq), fun l hl => q _ ρ1 _ _ _ e1 (k1.newO hl) (br_new k1 hl hs) p⟩
    · subst e
      cases r1 with
      | @tup a xs _ hq hs => exact ⟨a, xs, rfl, .inr (sq_up k1.gh hq), fun l hl => q _ ρ1 _ _ _ e1 (k1.newO hl) (br_new k1 hl hs) p⟩
theorem eb_listO {K : PySem.W.Frag} {l : Nat} {ds : List D} (hK : K = Γ.K) (h : ρ[l]? = some (some (.ow (.lst ds)))) (p : Ψ (.ow (.lst ds)) ρ) : EB Γ (tCB (fun xs H Q => ∃ p ys, xs = [.ref p] ∧ (SqL K H p ys ∨ SqT K H p ys) ∧ ∀ l, H l = none → Q (.ref l) (upd H l (.lst ys))) (tCons (tVar l) tNil)) ρ Ψ := fun σ G H Q k q => by
  subst hK
  obtain ⟨a, xs, h1, g1, g2⟩ := k.lst h
  exact ⟨_, h1, a, xs, rfl, .inl (SqL.of g1), fun m hm => q _ ρ _ _ _ (Ex.refl G) (k.newO hm) (br_new k hm g2) p⟩

/-- xs + e, xs a slot's own list, e a new list -/
theorem eb_catO {l : Nat} {ds : List D} (h0 : ρ[l]? = some (some (.ow (.lst ds)))) (h : EB Γ tb ρ fun b ρ1 => ∃ es, b = .ow (.lst es) ∧ ρ1[l]? = some (some (.ow (.lst ds))) ∧ ds.length + es.length ≤ 100000 ∧ Ψ (.ow (.lst (ds ++ es))) ρ1) : EB Γ (tOp rCat (tVar l) tb) ρ Ψ := fun σ G H Q k q => by
  obtain ⟨v0, g0, _⟩ := k.var l _ h0
  refine ⟨v0, g0, ?_⟩
  refine h σ G H _ k fun b ρ1 v G1 H1 e1 k1 r1 ⟨es, hb, hl, hz, p⟩ => ?_
  subst hb
  obtain ⟨⟨c, o, rfl, f1, f2, _⟩, _⟩ := r1
  cases f2 with
  | @lst ys _ f2 =>
    obtain ⟨a, xs, h1, g1, g2⟩ := k1.lst hl
    rw [g0] at h1
    cases h1
    exact ⟨a, c, xs, ys, rfl, rfl, g1, f1, Evl.sz_of (by rw [g2.length, f2.length]; exact hz), fun m hm => q _ ρ1 _ _ _ e1 (k1.newO hm) (br_new k1 hm (g2.append f2)) p⟩
/-! ### exceptions -/
/-- what the one-field __init__ of an error's class does -/
def spInit (K : PySem.W.Frag) (C : Addr) (f : Str) : Sp := fun vs H Q _ => ∃ (a : Addr) (v : V), vs = [.ref a, v] ∧ H a = some (exo a C none) ∧ ∀ dx, H dx = none → dx ≠ a → Q .non (upd (upd H dx (exd dx [(f, v)])) a (exo a C (some dx)))
theorem body_init {K : PySem.W.Frag} {C : Addr} {f : Str} (T : OexC K C) (hno : PySem.W.findIn K (.ref C) f = some none) {vs : List V} {H : Hp} {Q : VK} {E : XK} {N : List Str} (hN : N.length = 2) (h : spInit K C f vs H Q E) : tOst K f (tVar 0) (tVar 1) { nx := fun _ H' => Q .non H', rt := Q } (L2.start N vs) H := by
  obtain ⟨a, v, rfl, ha, k⟩ := h
  match N, hN with
  | [_, _], _ => exact ⟨_, rfl, _, rfl, a, C, rfl, T, hno, .inl ⟨ha, k⟩⟩
theorem xc_of {G H H' : Hp} {σ : St} {dd : Addr} {f : Str} {v : V} (k : Ok Γ G H σ ρ) (h0 : H dd = none) (h : H' dd = some (.xd [(f, v)])) : XC Γ H' dd f v :=
  ⟨h, fun z => Γ.R.dom H dd k.res z h0, fun p hp e => (by
    obtain ⟨e1, _⟩ := k.cel p hp
    rw [e, h0] at e1
    cases e1), by
    cases e : Γ.H dd with
    | none => rfl
    | some u => exact absurd h0 (k.dm dd (by rw [e]; simp))⟩
/-- raise C(e) -/
theorem sw_raise {K : PySem.W.Frag} {C : Addr} {f : Str} {ts : TA} {W : WX} (hW : ∀ ρ1 d v dd σ' G' H', Ok Γ G' H' σ' ρ1 → XC Γ H' dd f v → Rep Γ.K G' v d → Δ.xr ρ1 C f d → W (.ref C) (some dd) σ' H') (h : AW Γ ts ρ fun ds ρ1 => ∃ d, ds = [d] ∧ Δ.xr ρ1 C f d) :
    SW Γ (fun _ σ H => tMkO C (spInit K C f) [] ts σ H fun cls d H' => W cls d σ H') ρ Δ := fun σ G H D k hn hr hb hc =>
  h σ G H _ k fun ds ρ1 vs G1 H1 e1 k1 r1 ⟨d, e, p⟩ => by
    subst e
    cases r1 with
    | @cons v _ _ _ rv r' =>
      cases r'
      refine ⟨by show 1 ≤ 1000; decide, fun a ha => ⟨a, _, rfl, upd_same, fun dx hdx hne => ?_⟩⟩
      have hd : H1 dx = none := by rw [upd_ne hne] at hdx; exact hdx
      refine ⟨rfl, dx, [(f, v)], upd_same, by rw [upd_ne hne]; exact upd_same, hd, ?_⟩
      have eH : upd (L2.del (upd (upd (upd H1 a (exo a C none)) dx (exd dx [(f, v)])) a (exo a C (some dx))) a) dx (.xd [(f, v)]) = upd H1 dx (.xd [(f, v)]) := by
        funext b
        by_cases e1 : b = dx
        · rw [e1, upd_same, upd_same]
        · rw [upd_ne e1, upd_ne e1]
          by_cases e2 : b = a
          · rw [e2, del_same, ha]
          · rw [del_ne e2, upd_ne e2, upd_ne e1, upd_ne e2]
      rw [eH]
      exact hW ρ1 d v dx σ G1 _ (k1.newO hd) (xc_of k1 hd upd_same) rv p
/-- .. out of the def -/
theorem sw_raiseE {K : PySem.W.Frag} {C : Addr} {f : Str} {ts : TA} {E : XK} {Ξ : Addr → Str → D → Prop} (ke : KE Γ Ξ E) (hx : ∀ ρ1 C f d, Δ.xr ρ1 C f d → Ξ C f d) (h : AW Γ ts ρ fun ds ρ1 => ∃ d, ds = [d] ∧ Δ.xr ρ1 C f d) :
    SW Γ (fun _ σ H => tMkO C (spInit K C f) [] ts σ H fun cls d H' => (fun (cls : Value) (d : Option Addr) (_ : St) (H : Hp) => E cls d H) cls d σ H') ρ Δ :=
  sw_raise (fun ρ1 d v dd σ' G' H' k x rv p => ke C f v d dd σ' ρ1 G' H' k x rv (hx ρ1 C f d p)) h
/-- a call whose exceptions go on out of the def -/
theorem eb_callXP {K : PySem.W.Frag} {C : Cn} {Fam : Rsc → Prop} {ts : TA} {E : XK} {Ξ : Addr → Str → D → Prop} (ke : KE Γ Ξ E) (hK : K = Γ.K) (hF : Fam Rsc.no) (h : AW Γ ts ρ fun ds ρ1 => C Γ.K 0 ds (fun b => Ψ b ρ1) Ξ) : EB Γ (tCall (SpD K Fam C) [] E ts) ρ Ψ := fun σ G H Q k q =>
  h σ G H _ k fun ds ρ1 vs G1 H1 e1 k1 r1 hc => by
    subst hK
    show SpD Γ.K Fam C (vs ++ []) H1 Q E
    rw [List.append_nil]
    refine ⟨Rsc.no, G1, ds, _, Ξ, hF, trivial, fun _ z => z.elim, k1.gh, r1, hc, fun b v G' H' a hb p => ?_, fun C f v d dd G' H' a hd h0 rv x => ?_⟩
    · have a' := Aft.no k1.res k1.rg k1.gh a
      refine q b ρ1 v G' H' (e1.trans a.gg) (k1.aft a') (br_of k1 ?_) p
      cases b with
      | fz d => exact hb
      | ow ds =>
        obtain ⟨c, xs, e, h1, h2, h3, h4, h5⟩ := hb
        exact ⟨c, xs, e, h1, h2, h3, fun z => Γ.R.dom H1 c k1.res z h5, h5⟩
    · exact ke C f v d dd σ ρ1 G' H' (k1.aft (Aft.no k1.res k1.rg k1.gh a)) (xc_of k1 h0 hd) rv x
/-- the wish of a body within a try -/
def WOk (Γ : Ctx) (W : WX) (Ξ : Env → Addr → Str → D → Prop) (G0 : Hp) : Prop := ∀ ρ1 C f d v dd σ' G' H', Ex G0 G' → Ok Γ G' H' σ' ρ1 → XC Γ H' dd f v → Rep Γ.K G' v d → Ξ ρ1 C f d → W (.ref C) (some dd) σ' H'
theorem eb_callS {C : Cn} {Fam : Rsc → Prop} {ts : TA} {W : WX} {Ξ : Env → Addr → Str → D → Prop} (hF : Fam Rsc.no) (h : AW Γ ts ρ fun ds ρ1 => C Γ.K 0 ds (fun b => Ψ b ρ1) (Ξ ρ1)) : ∀ σ G H (Q : VK), Ok Γ G H σ ρ → (∀ ρ1 C f d v dd G' H', Ex G G' → Ok Γ G' H' σ ρ1 → XC Γ H' dd f v → Rep Γ.K G' v d → Ξ ρ1 C f d → W (.ref C) (some dd) σ H') →
    (∀ b ρ' v G' H', Ex G G' → Ok Γ G' H' σ ρ' → BR Γ G' H' σ ρ' v b → Ψ b ρ' → Q v H') → tCallS (SpD Γ.K Fam C) (WE W) ts σ H Q := fun σ G H Q k w q =>
  h σ G H _ k fun ds ρ1 vs G1 H1 e1 k1 r1 hc => by
    refine ⟨Rsc.no, G1, ds, _, _, hF, trivial, fun _ z => z.elim, k1.gh, r1, hc, fun b v G' H' a hb p => ?_, fun C f v d dd G' H' a hd h0 rv x => ?_⟩
    · have a' := Aft.no k1.res k1.rg k1.gh a
      refine q b ρ1 v G' H' (e1.trans a.gg) (k1.aft a') (br_of k1 ?_) p
      cases b with
      | fz d => exact hb
      | ow ds =>
        obtain ⟨c, xs, e, h1, h2, h3, h4, h5⟩ := hb
        exact ⟨c, xs, e, h1, h2, h3, fun z => Γ.R.dom H1 c k1.res z h5, h5⟩
    · have a' := Aft.no k1.res k1.rg k1.gh a
      exact w ρ1 C f d v dd G' H' (e1.trans a.gg) (k1.aft a') (xc_of k1 h0 hd) rv x
/-- the body of a try: for any wish that holds what the clauses promise -/
def TryB (Γ : Ctx) (tb : WX → TS) (ρ : Env) (Δ : Fin) : Prop := ∀ W σ G H (D : Ends), Ok Γ G H σ ρ → WOk Γ W Δ.xr G →
  (∀ ρ' σ' G' H', Ex G G' → Ok Γ G' H' σ' ρ' → Δ.nx ρ' → D.nx σ' H') → (∀ b v σ' ρ' G' H', Ok Γ G' H' σ' ρ' → BR Γ G' H' σ' ρ' v b → Δ.rt b → D.rt v H') →
  (∀ ρ' σ' G' H', Ex G G' → Ok Γ G' H' σ' ρ' → Δ.bk ρ' → D.bk σ' H') → (∀ ρ' σ' G' H', Ex G G' → Ok Γ G' H' σ' ρ' → Δ.ct ρ' → D.ct σ' H') → tb W D σ H
theorem tryB_asg {K : PySem.W.Frag} {C : Cn} {Fam : Rsc → Prop} {ts : TA} {i : Nat} (hK : K = Γ.K) (hF : Fam Rsc.no) (h : AW Γ ts ρ fun ds ρ1 => C Γ.K 0 ds (fun b => Δ.nx (ρ1.set i (some b))) (Δ.xr ρ1)) : TryB Γ (fun W => tAsg (tCallS (SpD K Fam C) (WE W) ts) (gName i)) ρ Δ := by
  subst hK
  exact fun W σ G H D k w hn hr hb hc =>
   eb_callS (Ψ := fun b ρ1 => Δ.nx (ρ1.set i (some b))) (Ξ := Δ.xr) hF h σ G H _ k (fun ρ1 C f d v dd G' H' e k' hd rv x => w ρ1 C f d v dd σ G' H' e k' hd rv x) fun b ρ1 v G1 H1 e1 k1 r1 p => hn _ _ G1 H1 e1 (k1.store r1) p
theorem tryB_drop {K : PySem.W.Frag} {C : Cn} {Fam : Rsc → Prop} {ts : TA} (hK : K = Γ.K) (hF : Fam Rsc.no) (h : AW Γ ts ρ fun ds ρ1 => C Γ.K 0 ds (fun b => Δ.nx ρ1) (Δ.xr ρ1)) : TryB Γ (fun W => tDrop (tCallS (SpD K Fam C) (WE W) ts)) ρ Δ := by
  subst hK
  exact fun W σ G H D k w hn hr hb hc =>
   eb_callS (Ψ := fun b ρ1 => Δ.nx ρ1) (Ξ := Δ.xr) hF h σ G H _ k (fun ρ1 C f d v dd G' H' e k' hd rv x => w ρ1 C f d v dd σ G' H' e k' hd rv x) fun b ρ1 v G1 H1 e1 k1 r1 p => hn _ _ G1 H1 e1 k1 p
/-- try: tb; except c as (slot i): ts -/
theorem sw_try {K : PySem.W.Frag} {c : Value} {i : Nat} {tb : WX → TS} {tx : Addr → Value → Option Addr → TS} {Wout : WX} (Ξ : Env → Addr → Str → D → Prop) (hK : K = Γ.K) (hb : TryB Γ tb ρ { Δ with xr := Ξ })
    (hs : ∀ ρ1 C f d, Ξ ρ1 C f d → PySem.W.exmOne K (.ref C) c = some true ∧ ∀ a dd, SW Γ (tx a (.ref C) (some dd)) (ρ1.set i (some (.fz (.err a dd f d)))) { Δ with nx := fun ρ2 => Δ.nx (ρ2.set i none), bk := fun ρ2 => Δ.bk (ρ2.set i none), ct := fun ρ2 => Δ.ct (ρ2.set i none) }) :
    SW Γ (fun D σ H => tb (wAs K c i tx Wout D) D σ H) ρ Δ := fun σ G H D k hn hr hbk hc => by
  subst hK
  refine hb _ σ G H D k (fun ρ1 C f d v dd σ' G' H' e k' x rv xi => ?_) hn hr hbk hc
  obtain ⟨h1, h2⟩ := hs ρ1 C f d xi
  refine ⟨true, h1, fun _ a ha => ?_, fun z => Bool.noConfusion z⟩
  -- the exception's dict is frozen
  have key : ∃ G2, Ex G' G2 ∧ Ok Γ G2 H' σ' ρ1 ∧ G2 dd = some (.xd [(f, v)]) := by
    cases eg : G' dd with
    | some u =>
      have z := k'.gh _ _ eg
      rw [x.at_] at z
      cases z
      exact ⟨G', Ex.refl _, k', eg⟩
    | none =>
      have gg : Ex G' (upd G' dd (.xd [(f, v)])) := Ex.new eg
      refine ⟨_, gg, ⟨fun b o h => ?_, k'.g0.trans gg, fun b g1 g2 => ?_, k'.fr, k'.dm, k'.res, fun b h => by rw [upd_ne fun e => x.nf (by rw [← e]; exact h)]; exact k'.rg b h, k'.len, fun j b h => ?_, k'.dj, fun p hp => ?_, k'.nx⟩, upd_same⟩
      · by_cases e : b = dd
        · subst e
          rw [upd_same] at h
          cases h
          exact x.at_
        · rw [upd_ne e] at h
          exact k'.gh b o h
      · rw [upd_ne fun e => g2 (by rw [e]; exact x.nh)]
        exact k'.nw b g1 g2
      · obtain ⟨w, g1, g2⟩ := k'.var j b h
        refine ⟨w, g1, ?_⟩
        cases b with
        | fz d => exact Rep.mono gg g2
        | ow es =>
          obtain ⟨c, ys, rfl, q1, q2, q3, q4, q5⟩ := g2
          have hc : c ≠ dd := fun e => by rw [e, x.at_] at q1; cases q1; cases q2
          exact ⟨c, ys, rfl, q1, RepC.mono gg q2, by rw [upd_ne hc]; exact q3, q4, q5⟩
      · obtain ⟨e1, e2, e3⟩ := k'.cel p hp
        exact ⟨e1, by rw [upd_ne (x.nx p hp)]; exact e2, e3⟩
  obtain ⟨G2, e2, k2, hg⟩ := key
  have un : ∀ {ρ2 : Env} {σ2 : St} {G3 H3 : Hp}, Ok Γ G3 H3 σ2 ρ2 → Ok Γ G3 H3 (σ2.set i none) (ρ2.set i none) := fun k => k.wipe1 i
  exact h2 a dd _ G2 H' _ (k2.store (.fz (Rep.err hg (rv.mono e2)))) (fun ρ' σ' G' H' e' k' p => hn _ _ G' H' ((e.trans e2).trans e') (un k') p) hr (fun ρ' σ' G' H' e' k' p => hbk _ _ G' H' ((e.trans e2).trans e') (un k') p) (fun ρ' σ' G' H' e' k' p => hc _ _ G' H' ((e.trans e2).trans e') (un k') p)
/-- e.f of the caught exception -/
theorem ew_xf {a dd : Addr} {C : Addr} {f : Str} (h : EW Γ te ρ fun x ρ1 => ∃ d, x = .err a dd f d ∧ Φ d ρ1) : EW Γ (tXf a (.ref C) (some dd) C f te) ρ Φ := fun σ G H Q k q =>
  h σ G H _ k fun x ρ1 v G1 H1 e1 k1 r1 ⟨d, e, p⟩ => by
    subst e
    cases r1 with
    | err hg hs => exact ⟨rfl, rfl, dd, _, _, rfl, k1.gh _ _ hg, by rw [look_put, if_pos rfl], q d ρ1 _ G1 H1 e1 k1 hs p⟩
/-- a call with keywords -/
theorem eb_callKP {K : PySem.W.Frag} {C : Cn} {Fam : Rsc → Prop} {ts tk : TA} {E : XK} {gV : List V → List V → List V} {gD : List D → List D → List D} (hK : K = Γ.K) (hF : Fam Rsc.no) (hg : ∀ {G vs ws ds es}, RepL Γ.K G vs ds → RepL Γ.K G ws es → RepL Γ.K G (gV vs ws) (gD ds es)) (h : AW Γ ts ρ fun ds ρ1 => AW Γ tk ρ1 fun es ρ2 => C Γ.K 0 (gD ds es) (fun b => Ψ b ρ2) NoX) : EB Γ (tCallK (SpD K Fam C) gV E ts tk) ρ Ψ := fun σ G H Q k q =>
  h σ G H _ k fun ds ρ0 vs G0 H0 e0 k0 r0 h1 => h1 σ G0 H0 _ k0 fun es ρ1 ws G1 H1 e1 k1 r1 hc => by
    subst hK
    refine ⟨Rsc.no, G1, _, _, NoX, hF, trivial, fun _ z => z.elim, k1.gh, hg (r0.mono e1) r1, hc, fun b v G' H' a hb p => ?_, fun _ _ _ _ _ _ _ _ _ _ _ z => z.elim⟩
    have a' := Aft.no k1.res k1.rg k1.gh a
    refine q b ρ1 v G' H' ((e0.trans e1).trans a.gg) (k1.aft a') (br_of k1 ?_) p
    cases b with
    | fz d => exact hb
    | ow ds =>
      obtain ⟨c, xs, e, h1, h2, h3, h4, h5⟩ := hb
      exact ⟨c, xs, e, h1, h2, h3, fun z => Γ.R.dom H1 c k1.res z h5, h5⟩

/-! ### truth -/
def truD : D → Option Bool
  | .non => some false
  | .bl b => some b
  | .int i => some (i != 0)
  | .tup ds => some (!ds.isEmpty)
  | .lst ds => some (!ds.isEmpty)
  | _ => none
theorem isE_of {K : PySem.W.Frag} {G : Hp} {xs : List V} {ds : List D} (h : RepL K G xs ds) : xs.isEmpty = ds.isEmpty := by
  cases h <;> rfl
theorem tw_tru {K : PySem.W.Frag} (hK : K = Γ.K) (h : EW Γ ta ρ fun d ρ1 => ∃ b, truD d = some b ∧ Θ b ρ1) : TW Γ (fun σ H Q => ta σ H fun x H' => ∃ k, TruV K x H' k ∧ Q k H') ρ Θ := fun σ G H Q k q =>
  h σ G H _ k fun d ρ1 v G1 H1 e1 k1 r1 ⟨b, hb, p⟩ => by
    subst hK
    refine ⟨b, ?_, q b ρ1 G1 H1 e1 k1 p⟩
    cases r1 with
    | non => cases hb; exact rfl
    | bl c => cases hb; exact rfl
    | int i => cases hb; exact rfl
    | str x => cases hb
    | tup hq hs => cases hb; exact .inr (.inl ⟨_, sq_up k1.gh hq, by rw [isE_of hs]⟩)
    | lst hq hs => cases hb; exact .inl ⟨_, seq_of k1.gh hq, by rw [isE_of hs]⟩
    | obj _ _ => cases hb
    | ptr a => cases hb
    | err _ _ => cases hb
    | dct _ _ => cases hb
/-- x.isEmpty of a slot's own list -/
theorem tw_truO {K : PySem.W.Frag} {l : Nat} {ds : List D} (hK : K = Γ.K) (h : ρ[l]? = some (some (.ow (.lst ds)))) (p : Θ (!ds.isEmpty) ρ) : TW Γ (fun σ H Q => tVar l σ H fun x H' => ∃ k, TruV K x H' k ∧ Q k H') ρ Θ := fun σ G H Q k q => by
  subst hK
  obtain ⟨a, xs, h1, g1, g2⟩ := k.lst h
  exact ⟨_, h1, _, .inl ⟨xs, SqL.of g1, rfl⟩, q _ ρ G H (Ex.refl G) k (by rw [isE_of g2]; exact p)⟩
theorem spd_len {K : PySem.W.Frag} {Fam : Rsc → Prop} {C : Cn} {n : Nat} {vs : List V} {H : Hp} {Q : VK} {E : XK} (hl : ∀ K w ds Ψ Ξ, C K w ds Ψ Ξ → ds.length = n) (h : SpD K Fam C vs H Q E) : vs.length = n := by
  obtain ⟨R, G, ds, Ψ, Ξ, _, _, _, _, r, c, _⟩ := h
  rw [r.length]
  exact hl _ _ _ _ _ c
/-- one of two promises -/
def COr (C1 C2 : Cn) : Cn := fun K w ds Ψ Ξ => C1 K w ds Ψ Ξ ∨ C2 K w ds Ψ Ξ
theorem spd_or {K : PySem.W.Frag} {Fam : Rsc → Prop} {C1 C2 : Cn} {vs : List V} {H : Hp} {Q : VK} {E : XK} (h : SpD K Fam (COr C1 C2) vs H Q E) : SpD K Fam C1 vs H Q E ∨ SpD K Fam C2 vs H Q E := by
  obtain ⟨R, G, ds, Ψ, Ξ, h1, h2, h3, h4, h5, h6 | h6, h7, h8⟩ := h
  · exact .inl ⟨R, G, ds, Ψ, Ξ, h1, h2, h3, h4, h5, h6, h7, h8⟩
  · exact .inr ⟨R, G, ds, Ψ, Ξ, h1, h2, h3, h4, h5, h6, h7, h8⟩
abbrev AnyR : Rsc → Prop := fun _ => True
/-! a // b for any b but 0 -/
def CFd (i j : Int) : Prop := j ≠ 0 ∧ j.natAbs.log2 < 9000
theorem op_fdivG {X : Cx} : OpR X (binaryOp .FloorDiv) (rI CFd fun i j => .int (i.fdiv j)) := opI fun i j _ _ _ _ _ hc q => PyProof.Rows.floordiv_int hc.1 q (.inl (PyProof.noPylong_of_log2 hc.2))
theorem cfd_of {i j : Int} {n : Nat} (h : j ≠ 0) (hb : j.natAbs < 2 ^ n) (hn : n ≤ 8999) : CFd i j := ⟨h, Nat.lt_of_lt_of_le (PySem.Flt.log2_lt_of (by
  by_cases h0 : n = 0
  · subst h0
    exfalso
    have : j.natAbs < 1 := hb
    omega
  · omega) hb) (by omega)⟩
/-! == of data -/
mutual
inductive Py : D → PyData → Prop
  | non : Py .non .none
  | bl (b : Bool) : Py (.bl b) (.bool b)
  | int (i : Int) : Py (.int i) (.int i)
  | str (x : Str) : Py (.str x) (.str x)
  | tup {ds : List D} {es : List PyData} (h : PyL ds es) : Py (.tup ds) (.tuple es)
  | lst {ds : List D} {es : List PyData} (h : PyL ds es) : Py (.lst ds) (.list es)
inductive PyL : List D → List PyData → Prop
  | nil : PyL [] []
  | cons {d : D} {e : PyData} {ds : List D} {es : List PyData} (h : Py d e) (hs : PyL ds es) : PyL (d :: ds) (e :: es)
end
mutual
theorem dp_of {K : PySem.W.Frag} {G H : Hp} (x : Ex G H) : ∀ {v : V} {d : D} {e : PyData}, Rep K G v d → Py d e → Dp K H v e
  | _, _, _, .non, .non => .non
  | _, _, _, .bl b, .bl _ => .bl b
  | _, _, _, .int i, .int _ => .int i
  | _, _, _, .str s, .str _ => .str s
  | _, _, _, .tup h hs, .tup p => .tup (sq_up x h) (dpAll_of x hs p)
  | _, _, _, .lst h hs, .lst p => .lst (seq_of x h) (dpAll_of x hs p)
theorem dpAll_of {K : PySem.W.Frag} {G H : Hp} (x : Ex G H) : ∀ {vs : List V} {ds : List D} {es : List PyData}, RepL K G vs ds → PyL ds es → DpAll K H vs es
  | _, _, _, .nil, .nil => .nil
  | _, _, _, .cons h hs, .cons p ps => .cons (dp_of x h p) (dpAll_of x hs ps)
end
theorem opv_eqD {K : PySem.W.Frag} {x y : D} {d e : PyData} (hK : K = Γ.K) (hx : Py x d) (hy : Py y e) (h1 : SeqAt.shaped d = true) (h2 : SeqAt.shaped e = true) : OpV Γ (rEqD K) x y (.bl (PyData.eqv d e)) := fun G H vx vy Q ex rx ry q => by
  subst hK
  exact ⟨d, e, dp_of ex rx hx, dp_of ex ry hy, h1, h2, q _ (.bl _)⟩

/-! ### objects of own classes -/
def putD (f : Str) (v : D) : List (Str × D) → List (Str × D)
  | [] => [(f, v)]
  | (g, x) :: r => if g = f then (g, v) :: r else (g, x) :: putD f v r
theorem RepF.put {K : PySem.W.Frag} {G : Hp} {f : Str} {v : V} {d : D} (r : Rep K G v d) : ∀ {gs : List (Str × V)} {fs : List (Str × D)}, RepF K G gs fs → RepF K G (putF f v gs) (putD f d fs)
  | _, _, .nil => .cons r .nil
  | _, _, .cons (f := g) h hs => by
    unfold putF putD
    by_cases e : g = f
    · rw [if_pos e, if_pos e]
      exact .cons r hs
    · rw [if_neg e, if_neg e]
      exact .cons h (RepF.put r hs)
theorem RepF.length {K : PySem.W.Frag} {G : Hp} : ∀ {gs : List (Str × V)} {fs : List (Str × D)}, RepF K G gs fs → gs.length = fs.length
  | _, _, .nil => rfl
  | _, _, .cons _ hs => congrArg (· + 1) (RepF.length hs)
/-- e.f -/
theorem ew_fld {K : PySem.W.Frag} {f : Str} (hK : K = Γ.K) (h : EW Γ ta ρ fun d ρ1 => ∃ C fs x, d = .obj C fs ∧ Cls Γ.K C ∧ NoAttr Γ.K C f ∧ fs.lookup f = some x ∧ Φ x ρ1) : EW Γ (tFld K ta f) ρ Φ := fun σ G H Q k q =>
  h σ G H _ k fun d ρ1 v G1 H1 e1 k1 r1 ⟨C, fs, x, hd, h1, h2, h3, p⟩ => by
    subst hK
    subst hd
    cases r1 with
    | obj hq hs =>
      obtain ⟨y, hy, ry⟩ := hs.look h3
      exact ⟨_, C, _, _, y, rfl, k1.gh _ _ hq, h1, h2, hy, q x ρ1 y G1 H1 e1 k1 ry p⟩
/-- x.f = e, x an object that the slot alone holds -/
theorem sw_fld {K : PySem.W.Frag} {f : Str} {i : Nat} {c0 : Ct} (hK : K = Γ.K) (h0 : ρ[i]? = some (some (.ow c0))) (h : EW Γ te ρ fun d ρ1 => ∃ C fs, ρ1[i]? = some (some (.ow (.obj C fs))) ∧ Cls Γ.K C ∧ NoAttr Γ.K C f ∧ fs.length < 1000 ∧ Δ.nx (ρ1.set i (some (.ow (.obj C (putD f d fs)))))) : SW Γ (sFld K (tVar i) te f) ρ Δ := fun σ G H D k hn hr hb hc => by
  subst hK
  refine h σ G H _ k fun d ρ1 v G1 H1 e1 k1 r1 ⟨C, fs, hi, h1, h2, h3, p⟩ => ?_
  obtain ⟨v1, g1, a, o, rfl, g2, g3, _⟩ := k1.var i _ hi
  cases g3 with
  | @obj _ dx gs _ g3 => exact ⟨_, g1, a, C, dx, gs, rfl, g2, h1, h2, by rw [g3.length]; exact h3, hn _ σ G1 _ e1 (k1.mut hi g1 (.obj (g3.put r1))) p⟩
/-- what an __init__ promises: of the arguments behind self; a result is the object, filled -/
def SpI (K : PySem.W.Frag) (Cl : Addr) (C : Cn) : Sp := fun vs H Q E => ∃ (x dx : Addr) (ws : List V) (G : Hp) (ds : List D) (Ψ : B → Prop) (Ξ : Addr → Str → D → Prop), vs = .ref x :: ws ∧ H x = some (.ins Cl dx []) ∧ G x = none ∧ Ex G (L2.del H x) ∧ RepL K G ws ds ∧ C K 0 ds Ψ Ξ ∧
  (∀ b G' H', Aft Rsc.no G (L2.del H x) G' H' → BVr K Rsc.no G' H' (L2.del H x) (.ref x) b → Ψ b → Q .non H') ∧
  (∀ Cl f v d dd G' H', Aft Rsc.no G (L2.del H x) G' H' → H' dd = some (.xd [(f, v)]) → L2.del H x dd = none → Rep K G' v d → Ξ Cl f d → E (.ref Cl) (some dd) H')
theorem spi_len {K : PySem.W.Frag} {Cl : Addr} {C : Cn} {n : Nat} {vs : List V} {H : Hp} {Q : VK} {E : XK} (hl : ∀ K w ds Ψ Ξ, C K w ds Ψ Ξ → ds.length = n) (h : SpI K Cl C vs H Q E) : vs.length = n + 1 := by
  obtain ⟨x, dx, ws, G, ds, Ψ, Ξ, rfl, _, _, _, r, c, _⟩ := h
  rw [List.length_cons, r.length, hl _ _ _ _ _ c]
theorem Aft.sub {G G' H H1 H' : Hp} (a : Aft Rsc.no G H1 G' H') (h : ∀ b o, H b = some o → H1 b = some o) : Aft Rsc.no G H G' H' :=
  ⟨a.gg, a.gh, a.res, a.rg, fun b h1 h2 => a.nw b h1 (by
    cases e : H b with
    | none => exact absurd e h2
    | some o =>
      rw [h b o e]
      simp), fun b o h1 h2 => a.fr b o h1 (h b o h2), fun b h1 => a.dm b (by
    cases e : H b with
    | none => exact absurd e h1
    | some o =>
      rw [h b o e]
      simp)⟩
/-- C(..) -/
theorem eb_make {K : PySem.W.Frag} {Cl : Addr} {C : Cn} {ts : TA} {E : XK} (hK : K = Γ.K) (h : AW Γ ts ρ fun ds ρ1 => C Γ.K 0 ds (fun b => Ψ b ρ1) NoX) : EB Γ (tMake Cl (SpI K Cl C) [] E ts) ρ Ψ := fun σ G H Q k q =>
  h σ G H _ k fun ds ρ1 vs G1 H1 e1 k1 r1 hc x dx hx hdx hne => by
    subst hK
    rw [List.append_nil]
    have old : ∀ b o, H1 b = some o → L2.del (upd (upd H1 dx (.own x)) x (.ins Cl dx [])) x b = some o := fun b o hb => by
      rw [del_ne (ne_of_none hb hx), upd_ne (ne_of_none hb hx), upd_ne (ne_of_none hb hdx)]
      exact hb
    refine ⟨x, dx, vs, G1, ds, _, NoX, rfl, upd_same, Evl.fresh_back k1.gh hx, fun b o hb => old b o (k1.gh b o hb), r1, hc, fun b G' H' a hb p => ⟨rfl, ?_⟩, fun _ _ _ _ _ _ _ _ _ _ _ z => z.elim⟩
    have a' := Aft.no k1.res k1.rg k1.gh (a.sub old)
    refine q b ρ1 _ G' H' (e1.trans a.gg) (k1.aft a') (br_of k1 ?_) p
    cases b with
    | fz d => exact hb
    | ow c =>
      obtain ⟨y, o, e, h1, h2, h3, h4, h5⟩ := hb
      cases e
      exact ⟨x, o, rfl, h1, h2, h3, fun z => Γ.R.dom H1 x k1.res z hx, hx⟩
/-- the body of an __init__: self is the pointer x; what the object holds: fs -/
def MK (Γ : Ctx) (x C dx : Addr) (ts : TS) (ρ : Env) (fs : List (Str × D)) (Ψ : List (Str × D) → Prop) (Ξ : Addr → Str → D → Prop) : Prop := ∀ σ G H (D : Ends) gs, Γ.X = [] → Γ.H x = none → Ok (Γ.ext (x, .ins C dx gs)) G H σ ρ → RepF Γ.K G gs fs →
  (∀ gs' fs' σ' ρ' G' H', Ok (Γ.ext (x, .ins C dx gs')) G' H' σ' ρ' → RepF Γ.K G' gs' fs' → Ψ fs' → D.nx σ' H') → ts D σ H
theorem mk_fld {K : PySem.W.Frag} {x C dx : Addr} {f : Str} {i : Nat} {fs : List (Str × D)} {P : List (Str × D) → Prop} {Ξ : Addr → Str → D → Prop} (hK : K = Γ.K) (h1 : Cls Γ.K C) (h2 : NoAttr Γ.K C f) (h3 : fs.length < 1000)
    (h : ∀ c, EW (Γ.ext c) te ρ fun d ρ1 => ρ1[i]? = some (some (.fz (.ptr x))) ∧ MK Γ x C dx tu ρ1 (putD f d fs) P Ξ) : MK Γ x C dx (tSeq (sFld K (tVar i) te f) tu) ρ fs P Ξ := fun σ G H D gs hX hz k r kn => by
  subst hK
  refine h _ σ G H _ k fun d ρ1 v G1 H1 e1 k1 r1 ⟨hi, hm⟩ => ?_
  obtain ⟨v1, g1, g2⟩ := k1.var i _ hi
  have g2' : Rep Γ.K G1 v1 (.ptr x) := g2
  cases g2'
  obtain ⟨c1, c2, c3⟩ := k1.cel _ List.mem_cons_self
  have r' := r.mono e1
  refine ⟨_, g1, x, C, dx, gs, rfl, c1, h1, h2, by rw [r'.length]; exact h3, ?_⟩
  have no : ∀ j, ¬ own σ ρ1 j x := fun j o => k1.nx j x o _ List.mem_cons_self rfl
  have k2 : Ok Γ G1 (upd H1 x (.ins C dx (putF f v gs))) σ ρ1 := k1.unext.touch c2 c3 no (by rw [hX]; simp) hz
  exact hm σ G1 _ D _ hX hz (k2.ext upd_same c2 c3 no) (r'.put r1) kn
theorem mk_last {K : PySem.W.Frag} {x C dx : Addr} {f : Str} {i : Nat} {fs : List (Str × D)} {P : List (Str × D) → Prop} {Ξ : Addr → Str → D → Prop} (hK : K = Γ.K) (h1 : Cls Γ.K C) (h2 : NoAttr Γ.K C f) (h3 : fs.length < 1000)
    (h : ∀ c, EW (Γ.ext c) te ρ fun d ρ1 => ρ1[i]? = some (some (.fz (.ptr x))) ∧ P (putD f d fs)) : MK Γ x C dx (sFld K (tVar i) te f) ρ fs P Ξ := fun σ G H D gs hX hz k r kn => by
  subst hK
  refine h _ σ G H _ k fun d ρ1 v G1 H1 e1 k1 r1 ⟨hi, hm⟩ => ?_
  obtain ⟨v1, g1, g2⟩ := k1.var i _ hi
  have g2' : Rep Γ.K G1 v1 (.ptr x) := g2
  cases g2'
  obtain ⟨c1, c2, c3⟩ := k1.cel _ List.mem_cons_self
  have r' := r.mono e1
  refine ⟨_, g1, x, C, dx, gs, rfl, c1, h1, h2, by rw [r'.length]; exact h3, ?_⟩
  have no : ∀ j, ¬ own σ ρ1 j x := fun j o => k1.nx j x o _ List.mem_cons_self rfl
  have k2 : Ok Γ G1 (upd H1 x (.ins C dx (putF f v gs))) σ ρ1 := k1.unext.touch c2 c3 no (by rw [hX]; simp) hz
  exact kn _ _ σ ρ1 G1 _ (k2.ext upd_same c2 c3 no) (r'.put r1) hm
/-- statements ahead of a store -/
theorem mk_pre {x C dx : Addr} {fs : List (Str × D)} {P : List (Str × D) → Prop} {Ξ : Addr → Str → D → Prop} (h : ∀ c, SW (Γ.ext c) ts ρ { nx := fun ρ1 => MK Γ x C dx tu ρ1 fs P Ξ, rt := fun _ => False, bk := fun _ => False, ct := fun _ => False, xr := fun _ => Ξ }) : MK Γ x C dx (tSeq ts tu) ρ fs P Ξ := fun σ G H D gs hX hz k r kn =>
  h _ σ G H _ k (fun ρ1 σ1 G1 H1 e1 k1 p => p σ1 G1 H1 D gs hX hz k1 (r.mono e1) kn) (fun _ _ _ _ _ _ _ _ z => z.elim) (fun _ _ _ _ _ _ z => z.elim) (fun _ _ _ _ _ _ z => z.elim)
theorem body_mk {K : PySem.W.Frag} {Cl : Addr} {C : Cn} {N : List Str} {t : TS} {vs : List V} {H : Hp} {Q : VK} {E : XK} (n : Nat) (hn : n + 1 ≤ N.length) (hlen : ∀ K w ds Ψ Ξ, C K w ds Ψ Ξ → ds.length = n) (h : SpI K Cl C vs H Q E)
    (hb : ∀ (Γ : Ctx) (x dx : Addr) (ds : List D) (Ψ : B → Prop) (Ξ : Addr → Str → D → Prop), Γ.K = K → C K 0 ds Ψ Ξ → (∀ c, KE (Γ.ext c) Ξ E) →
      MK Γ x Cl dx t (some (.fz (.ptr x)) :: (ds.map (fun d => some (.fz d)) ++ List.replicate (N.length - (ds.length + 1)) none)) [] (fun fs => Ψ (.ow (.obj Cl fs))) Ξ) :
    t { nx := fun _ H' => Q .non H', rt := Q } (L2.start N vs) H := by
  obtain ⟨x, dx, ws, G, ds, Ψ, Ξ, rfl, hx, hg, hG, rl, hc, kq, ke⟩ := h
  have hl := rl.length
  have el := hlen _ _ _ _ _ hc
  have dom : ∀ a, L2.del H x a ≠ none → a ≠ x := fun a h e => h (by rw [e]; exact del_same)
  have un : ∀ {a o}, L2.del H x a = some o → H a = some o := fun {a o} h => by
    have ne : a ≠ x := dom a (by rw [h]; simp)
    rw [del_ne ne] at h
    exact h
  have sl : ∀ (i : Nat) b, (ds.map (fun d => some (B.fz d)) ++ List.replicate (N.length - (ds.length + 1)) none)[i]? = some (some b) → ∃ d, ds[i]? = some d ∧ b = .fz d := fun i b h => by
    by_cases hi : i < ds.length
    · rw [List.getElem?_append_left (by rw [List.length_map]; exact hi), List.getElem?_map] at h
      cases hd : ds[i]? with
      | none =>
        rw [hd] at h
        cases h
      | some d =>
        rw [hd] at h
        cases h
        exact ⟨d, rfl, rfl⟩
    · exfalso
      rw [List.getElem?_append_right (by rw [List.length_map]; omega)] at h
      obtain ⟨_, e⟩ := List.getElem?_eq_some_iff.mp h
      rw [List.getElem_replicate] at e
      cases e
  have fz : ∀ (i : Nat) b, (some (B.fz (.ptr x)) :: (ds.map (fun d => some (B.fz d)) ++ List.replicate (N.length - (ds.length + 1)) none))[i]? = some (some b) → ∃ d, b = .fz d := fun i b h => by
    cases i with
    | zero =>
      cases h
      exact ⟨_, rfl⟩
    | succ i =>
      obtain ⟨d, _, e⟩ := sl i b h
      exact ⟨d, e⟩
  have hk : Ok ⟨K, G, L2.del H x, Rsc.no, []⟩ G H (L2.start N (.ref x :: ws)) (some (.fz (.ptr x)) :: (ds.map (fun d => some (.fz d)) ++ List.replicate (N.length - (ds.length + 1)) none)) := by
    refine ⟨fun a o h => un (hG a o h), Ex.refl G, fun a h _ => h, fun a o _ h => un h, fun a h => ?_, trivial, fun _ z => z.elim, ?_, fun i b h => ?_, fun i j a ⟨_, c, q⟩ h2 => ?_, fun p hp => absurd hp (by simp), fun i a _ p hp => absurd hp (by simp)⟩
    · have ne : a ≠ x := dom a h
      have h' : L2.del H x a ≠ none := h
      rw [del_ne ne] at h'
      exact h'
    · unfold L2.start
      rw [List.length_append, List.length_map, List.length_replicate, List.length_cons, List.length_cons, List.length_append, List.length_map, List.length_replicate, hl]
      omega
    · cases i with
      | zero =>
        cases h
        exact ⟨_, rfl, Rep.ptr x⟩
      | succ i =>
        obtain ⟨d, hd, rfl⟩ := sl i b h
        obtain ⟨v, hv, rv⟩ := rl.getD hd
        refine ⟨v, ?_, rv⟩
        show ((V.ref x :: ws).map some ++ _)[i + 1]? = _
        rw [List.map_cons, List.cons_append, List.getElem?_cons_succ, List.getElem?_append_left (by rw [List.length_map, hl]; exact (List.getElem?_eq_some_iff.mp hd).1), List.getElem?_map, hv]
        rfl
    · obtain ⟨d, e⟩ := fz i _ q
      cases e
  have hk2 : Ok (Ctx.ext ⟨K, G, L2.del H x, Rsc.no, []⟩ (x, .ins Cl dx [])) G H (L2.start N (.ref x :: ws)) (some (.fz (.ptr x)) :: (ds.map (fun d => some (.fz d)) ++ List.replicate (N.length - (ds.length + 1)) none)) := hk.ext hx hg (fun z => z) fun i ⟨_, c, q⟩ => by
    obtain ⟨d, e⟩ := fz i _ q
    cases e
  refine hb ⟨K, G, L2.del H x, Rsc.no, []⟩ x dx ds Ψ Ξ rfl hc (fun c C f v d dd σ' ρ' G' H' k xc rv xi => ke C f v d dd G' H' ⟨k.g0, k.gh, k.res, k.rg, k.nw, k.fr, k.dm⟩ xc.at_ xc.nh rv xi) _ G H _ [] rfl del_same hk2 .nil fun gs' fs' σ' ρ' G' H' k r p => ?_
  obtain ⟨c1, c2, c3⟩ := k.cel _ List.mem_cons_self
  exact kq (.ow (.obj Cl fs')) G' H' ⟨k.g0, k.gh, k.res, k.rg, k.nw, k.fr, k.dm⟩ ⟨x, _, rfl, c1, .obj r, c2, c3, del_same⟩ p
end
/-! ### calls by keywords alone -/
theorem pe_callK0 {X : Cx} {CX : CXT} {k : Nat} {f : Addr} {fd : FuncData} {ps ks : List Str} {sp : Sp} {E : XK} {x : Str} {p pos : Pos} {kws : List Keyword} {tk : TA} {g : List Value → List Value → List Value} {gV : List V → List V → List V}
    (F : FnOk X.prog X.w X.K X.mg X.base CX k f fd ps sp) (hr : Room k X.A) (hg : Gl X x) (hm : X.mg x = some (.ref f)) (hk : PySem.W.keepIn X.K (.ref f) = true) (hb : KBinds X.K fd ps ks g gV) (hx : Passes CX X E)
    (hkw : PK X kws tk) (hall : (backToKw pos (keywordEach kws X.env)).all (·.1.isSome) = true := by rfl) (hks : (backToKw pos (keywordEach kws X.env)).filterMap (·.1) = ks := by rfl)
    (hdb : (x == ("__debug__" : Str)) = false := by decide)
    (hpl : ((backTo pos (starEach [] X.env)).any (·.1) || (backToKw pos (keywordEach kws X.env)).any (·.1.isNone)) = false := by rfl) :
    PE X (.Call (.Name x p) [] kws pos) (tCallK sp gV E tNil tk) := by
  refine ⟨fun pins s σ H Q I h => ?_⟩
  refine wpAny_Call_Name_kw (ld_glob I hg hm ?_ hdb)
  refine PySem.W.callWith_KW0 (h₀ := X.base) I.ok.mod.kin hk hall (thn (hkw.run pos pins s σ H _ I h) fun ws s2 ⟨zs, H2, I2, rz, q2⟩ => ⟨I2.kIn, ?_⟩) hpl
  rw [hks]
  exact run_fnk F hr hb hx I2 .nil rz q2
/-- two keywords, in the parameters' order or the other way about -/
def kw2 {α : Type} : List α → List α → List α
  | [], [x, y] => [y, x]
  | _, _ => []
def kw2i {α : Type} : List α → List α → List α
  | [], [x, y] => [x, y]
  | _, _ => []
theorem kbinds2 {K : PySem.W.Frag} {x qual : Str} {st : Stmt} {f : Addr} {fd : FuncData} {p1 p2 : Str} (F : Fun K x qual st f fd)
    (h : ∀ (kV doc pm : Value) (an : Option Addr) (cdv ct u v : Value), bindArgs (PySem.W.fnOf x qual (defArgs st) (defBody st) (defScope st) .none kV doc pm an cdv ct) ⟨[], [(p2, u), (p1, v)]⟩ = pure [(p1, v), (p2, u)]) : KBinds K fd [p1, p2] [p2, p1] kw2 kw2 := by
  obtain ⟨oc, od, kV, doc, pm, an, cdv, ct, osl, rfl, lk, hcd⟩ := F.ex
  refine ⟨fun s us ws _ hl => ?_, fun {vs us zs ws} r1 r2 => ?_⟩
  · match us, ws, hl with
    | [], [u, v], _ => exact BindsTo.of_eq (h kV doc pm an cdv ct u v)
  · cases r1 with
    | cons _ _ => exact .nil
    | nil => cases r2 with
      | nil => exact .nil
      | cons a r2 => cases r2 with
        | nil => exact .nil
        | cons b r2 => cases r2 with
          | nil => exact .cons b (.cons a .nil)
          | cons _ _ => exact .nil
theorem rep_kw2 {K : PySem.W.Frag} {G : Hp} {vs ws : List V} {ds es : List D} (r1 : RepL K G vs ds) (r2 : RepL K G ws es) : RepL K G (kw2 vs ws) (kw2 ds es) := by
  cases r1 with
  | cons _ _ => exact .nil
  | nil => cases r2 with
    | nil => exact .nil
    | cons a r2 => cases r2 with
      | nil => exact .nil
      | cons b r2 => cases r2 with
        | nil => exact .cons b (.cons a .nil)
        | cons _ _ => exact .nil
/-! kinds of data -/
def isIntD : D → Bool | .int _ => true | _ => false
def isBlD : D → Bool | .bl _ => true | _ => false
def isTupD : D → Bool | .tup _ => true | _ => false
def isLstD : D → Bool | .lst _ => true | _ => false
def isStrD : D → Bool | .str _ => true | _ => false
theorem kit_int {d : D} {t : String} (h : tyN d = some t) : kitB t "int" = some (isIntD d || isBlD d) := by cases d <;> cases h <;> simp only [isIntD, isBlD, isTupD, isLstD, isStrD, Bool.or_false, Bool.or_true, Bool.or_self] <;> decide +kernel
theorem kit_bool {d : D} {t : String} (h : tyN d = some t) : kitB t "bool" = some (isBlD d) := by cases d <;> cases h <;> simp only [isIntD, isBlD, isTupD, isLstD, isStrD, Bool.or_false, Bool.or_true, Bool.or_self] <;> decide +kernel
theorem kit_tuple {d : D} {t : String} (h : tyN d = some t) : kitB t "tuple" = some (isTupD d) := by cases d <;> cases h <;> simp only [isIntD, isBlD, isTupD, isLstD, isStrD, Bool.or_false, Bool.or_true, Bool.or_self] <;> decide +kernel
theorem kit_list {d : D} {t : String} (h : tyN d = some t) : kitB t "list" = some (isLstD d) := by cases d <;> cases h <;> simp only [isIntD, isBlD, isTupD, isLstD, isStrD, Bool.or_false, Bool.or_true, Bool.or_self] <;> decide +kernel
theorem kit_str {d : D} {t : String} (h : tyN d = some t) : kitB t "str" = some (isStrD d) := by cases d <;> cases h <;> simp only [isIntD, isBlD, isTupD, isLstD, isStrD, Bool.or_false, Bool.or_true, Bool.or_self] <;> decide +kernel
/-- data whose class is told -/
def Kn (d : D) : Prop := ∃ t, tyN d = some t
theorem kn_int {i : Int} : Kn (.int i) := ⟨_, rfl⟩
theorem kn_tup {ds : List D} : Kn (.tup ds) := ⟨_, rfl⟩
end Dl

/-! Dm: more rules of plain data: kinds of any data, cuts, list methods, zip -/
namespace Dl
open PySem L2
open Evl (Ex)
/-! ### kinds: also of objects -/
def five : List String := ["int", "bool", "tuple", "list", "str"]
/-- data of which isinstance tells -/
def Dt (K : PySem.W.Frag) (d : D) : Prop := Kn d ∨ ∃ C fs, d = .obj C fs ∧ ObjTy K C ∧ ∀ n ∈ five, PySem.W.kitOne K (.ref C) (.type n) = some false
structure IsN (n : String) (f : D → Bool) : Prop where
  of : ∀ d t, tyN d = some t → kitB t n = some (f d)
  m : n ∈ five
  no : ∀ C fs, f (.obj C fs) = false
theorem dt_k {K : PySem.W.Frag} {d : D} {t : String} (h : tyN d = some t) : Dt K d := .inl ⟨t, h⟩
theorem dt_int {K : PySem.W.Frag} {i : Int} : Dt K (.int i) := dt_k rfl
theorem dt_bl {K : PySem.W.Frag} {b : Bool} : Dt K (.bl b) := dt_k rfl
theorem dt_str {K : PySem.W.Frag} {x : Str} : Dt K (.str x) := dt_k rfl
theorem dt_non {K : PySem.W.Frag} : Dt K .non := dt_k rfl
theorem dt_tup {K : PySem.W.Frag} {ds : List D} : Dt K (.tup ds) := dt_k rfl
theorem dt_lst {K : PySem.W.Frag} {ds : List D} : Dt K (.lst ds) := dt_k rfl
theorem Kn.dt {K : PySem.W.Frag} {d : D} (h : Kn d) : Dt K d := .inl h
def isIB (d : D) : Bool := isIntD d || isBlD d
theorem isN_int : IsN "int" isIB := ⟨fun d t h => kit_int h, by simp [five], fun _ _ => rfl⟩
theorem isN_bool : IsN "bool" isBlD := ⟨fun d t h => kit_bool h, by simp [five], fun _ _ => rfl⟩
theorem isN_tuple : IsN "tuple" isTupD := ⟨fun d t h => kit_tuple h, by simp [five], fun _ _ => rfl⟩
theorem isN_list : IsN "list" isLstD := ⟨fun d t h => kit_list h, by simp [five], fun _ _ => rfl⟩
theorem isN_str : IsN "str" isStrD := ⟨fun d t h => kit_str h, by simp [five], fun _ _ => rfl⟩
/-- x[i] of a list, read for x[i] op= e -/
theorem get_own {X : Cx} : PGet X (rIxL X.K) := fun pins s σ H o i ov iv Q I ro ri ⟨p, xs, k, z, e1, e2, hq, he, q⟩ => by
  subst e1 e2
  cases ro
  obtain ⟨t, rfl⟩ := ri
  obtain ⟨its, r, pl, hz⟩ := I.list hq
  obtain ⟨j, hj, hx, lt, lo, hi⟩ := atI_get he
  obtain ⟨u, hu, ru⟩ := r.get hx
  have len : xs.length = its.length := r.length
  have big := line63
  have done : EP X pins σ Q u s := ⟨z, H, I, ru, q⟩
  unfold seqIndex? at hj
  by_cases neg : k < 0
  · simp only [if_pos neg] at hj
    split at hj
    · have ej := Option.some.inj hj
      refine wpAny_mono (PySem.wpAny_getItem_list_neg (x := u) (Q := fun r s' => r = u ∧ EP X pins σ Q r s') pl.isList neg ?_ ?_ ?_ ⟨rfl, done⟩) (fun _ _ h => h.2) fun _ _ h => h
      all_goals first | omega | (rw [List.size_toArray]; omega) | skip
      rw [List.size_toArray, ← len, ej]
      simpa using hu
    · cases hj
  · simp only [if_neg neg] at hj
    split at hj
    · have ej := Option.some.inj hj
      refine wpAny_mono (PySem.wpAny_getItem_list (x := u) (Q := fun r s' => r = u ∧ EP X pins σ Q r s') pl.isList (by omega) (by omega) ?_ ⟨rfl, done⟩) (fun _ _ h => h.2) fun _ _ h => h
      rw [ej]
      simpa using hu
    · cases hj
section
variable {Γ : Ctx} {ρ : Env} {te ta tb : TE} {tt : TT} {ts tu : TS} {Φ : D → Env → Prop} {Ψ : B → Env → Prop} {Θ : Bool → Env → Prop} {Δ : Fin}
theorem dt_ty {K : PySem.W.Frag} {G H : Hp} {v : V} {d : D} (e : Ex G H) (r : Rep K G v d) (hd : Dt K d) : ∃ c, TyX K H v c ∧ ∀ n f, IsN n f → PySem.W.kitOne K c (.type n) = some (f d) := by
  rcases hd with ⟨t, ht⟩ | ⟨C, fs, rfl, T, hk⟩
  · exact ⟨_, tyX_of e r ht, fun n f hn => kit_ty (hn.of d t ht)⟩
  · cases r with
    | obj hq hs => exact ⟨.ref C, .base (.ins (e _ _ hq) T.cl T.ha T.hn T.htk T.hm), fun n f hn => by rw [hn.no]; exact hk n hn.m⟩
theorem ew_isiD {K : PySem.W.Frag} {n : String} {f : D → Bool} (hn : IsN n f) (hK : K = Γ.K) (h : EW Γ te ρ fun d ρ1 => Dt Γ.K d ∧ Φ (.bl (f d)) ρ1) : EW Γ (tCB (rIsi K) (tCons te (tCons (tC (.ty n)) tNil))) ρ Φ := fun σ G H Q k q =>
  h σ G H _ k fun d ρ1 v G1 H1 e1 k1 r1 ⟨hd, p⟩ => by
    subst hK
    obtain ⟨c, h1, h2⟩ := dt_ty k1.gh r1 hd
    exact ⟨v, .ty n, c, .type n, f d, rfl, .ty n, h1, h2 n f hn, q _ ρ1 _ G1 H1 e1 k1 (.bl _) p⟩
theorem ew_isi2D {K : PySem.W.Frag} {n m : String} {f g : D → Bool} (hn : IsN n f) (hm : IsN m g) (hK : K = Γ.K) (h : EW Γ te ρ fun d ρ1 => Dt Γ.K d ∧ Φ (.bl (f d || g d)) ρ1) : EW Γ (tCB (rIsiT K) (tCons te (tCons (tTup (tCons (tC (.ty n)) (tCons (tC (.ty m)) tNil))) tNil))) ρ Φ := fun σ G H Q k q =>
  h σ G H _ k fun d ρ1 v G1 H1 e1 k1 r1 ⟨hd, p⟩ => by
    subst hK
    refine ⟨by show 2 ≤ sizeLine; decide, fun a ha => ?_⟩
    obtain ⟨k2, e2⟩ := k1.new (o := .tup [.ty n, .ty m]) ha
    obtain ⟨c, h1, h2⟩ := dt_ty k2.gh (r1.mono e2) hd
    refine ⟨v, a, [.ty n, .ty m], c, [.type n, .type m], f d || g d, rfl, upd_same, .cons (.ty n) (.cons (.ty m) .nil), h1, ?_, q _ ρ1 _ _ _ (e1.trans e2) k2 (.bl _) p⟩
    refine kitAny_cons (h2 n f hn) (fun z => ?_) (fun z => by rw [z]; rfl)
    rw [z, Bool.false_or]
    cases hg : g d with
    | true => exact kitAny_cons (h2 m g hm) (fun z => by rw [hg] at z; cases z) (fun _ => rfl)
    | false => exact kitAny_cons (h2 m g hm) (fun _ => kitAny_nil) (fun z => by rw [hg] at z; cases z)
/-! ### cuts -/
/-- a bound -/
def BW (Γ : Ctx) (t : TO) (ρ : Env) (Ω : Option Int → Env → Prop) : Prop := ∀ σ G H (Q : Option Int → Hp → Prop), Ok Γ G H σ ρ → (∀ o ρ1 G1 H1, Ex G G1 → Ok Γ G1 H1 σ ρ1 → Ω o ρ1 → Q o H1) → t σ H Q
variable {Ω : Option Int → Env → Prop} {tl th : TO} {ta' : TA}
theorem pw_none (p : Ω none ρ) : BW Γ tNoPart ρ Ω := fun σ G H Q k q => q none ρ G H (Ex.refl G) k p
theorem pw_some (h : EW Γ te ρ fun d ρ1 => ∃ i, d = .int i ∧ Ω (some i) ρ1) : BW Γ (tPart te) ρ Ω := fun σ G H Q k q =>
  h σ G H _ k fun d ρ1 v G1 H1 e1 k1 r1 ⟨i, hd, p⟩ => by
    subst hd
    cases r1
    exact ⟨i, rfl, q _ ρ1 G1 H1 e1 k1 p⟩
def cutD (ds : List D) (lo hi : Option Int) : List D := (ds.drop (HT.sIx ds.length 0 lo)).take (HT.sIx ds.length ds.length hi - HT.sIx ds.length 0 lo)
theorem RepL.drop {K : PySem.W.Frag} {G : Hp} : ∀ {vs : List V} {ds : List D} (n : Nat), RepL K G vs ds → RepL K G (vs.drop n) (ds.drop n)
  | _, _, 0, r => r
  | _, _, n + 1, .nil => .nil
  | _, _, n + 1, .cons _ r => RepL.drop n r
theorem RepL.take {K : PySem.W.Frag} {G : Hp} : ∀ {vs : List V} {ds : List D} (n : Nat), RepL K G vs ds → RepL K G (vs.take n) (ds.take n)
  | _, _, 0, _ => .nil
  | _, _, n + 1, .nil => .nil
  | _, _, n + 1, .cons h r => .cons h (RepL.take n r)
theorem RepL.eraseIdx {K : PySem.W.Frag} {G : Hp} : ∀ {vs : List V} {ds : List D} (n : Nat), RepL K G vs ds → RepL K G (vs.eraseIdx n) (ds.eraseIdx n)
  | _, _, _, .nil => .nil
  | _, _, 0, .cons _ r => r
  | _, _, n + 1, .cons h r => .cons h (RepL.eraseIdx n r)
theorem RepL.cut {K : PySem.W.Frag} {G : Hp} {vs : List V} {ds : List D} (r : RepL K G vs ds) (lo hi : Option Int) : RepL K G (cutV vs lo hi) (cutD ds lo hi) := by
  unfold cutV cutD
  rw [r.length]
  exact (r.drop _).take _
theorem cut_all {α : Type} {xs : List α} {lo hi : Nat} (h1 : lo = 0) (h2 : hi = xs.length) : (xs.drop lo).take (hi - lo) = xs := by
  subst h1 h2
  simp
/-- e[lo:hi], e a tuple -/
theorem ew_cutT {K : PySem.W.Frag} (hK : K = Γ.K) (h : EW Γ te ρ fun d ρ1 => BW Γ tl ρ1 fun lo ρ2 => BW Γ th ρ2 fun hi ρ3 => ∃ ds, d = .tup ds ∧ Φ (.tup (cutD ds lo hi)) ρ3) : EW Γ (tSl (rSlA K) te tl th) ρ Φ := fun σ G H Q k q =>
  h σ G H _ k fun d ρ1 v G1 H1 e1 k1 r1 h1 => h1 σ G1 H1 _ k1 fun lo ρ2 G2 H2 e2 k2 h2 => h2 σ G2 H2 _ k2 fun hi ρ3 G3 H3 e3 k3 ⟨ds, hd, p⟩ => by
    subst hd
    subst hK
    cases r1 with
    | @tup a xs _ hq hs =>
      have e23 := e2.trans e3
      refine ⟨a, xs, rfl, sq_up (e23.trans k3.gh) hq, fun z => ?_, fun _ b hb => ?_⟩
      · have e : cutD ds lo hi = ds := by
          have l := hs.length
          rw [l] at z
          exact cut_all z.1 z.2
        rw [e] at p
        exact q _ ρ3 _ G3 H3 (e1.trans e23) k3 ((Rep.tup hq hs).mono e23) p
      · obtain ⟨k4, e4⟩ := k3.new (o := .tup (cutV xs lo hi)) hb
        exact q _ ρ3 _ _ _ ((e1.trans e23).trans e4) k4 (.tup (SqT.of upd_same) ((hs.mono (e23.trans e4)).cut lo hi)) p
/-- e[lo:hi], e a list that does not change -/
theorem eb_cutL {K : PySem.W.Frag} (hK : K = Γ.K) (h : EW Γ te ρ fun d ρ1 => BW Γ tl ρ1 fun lo ρ2 => BW Γ th ρ2 fun hi ρ3 => ∃ ds, d = .lst ds ∧ Ψ (.ow (.lst (cutD ds lo hi))) ρ3) : EB Γ (tSl (rSlL K) te tl th) ρ Ψ := fun σ G H Q k q =>
  h σ G H _ k fun d ρ1 v G1 H1 e1 k1 r1 h1 => h1 σ G1 H1 _ k1 fun lo ρ2 G2 H2 e2 k2 h2 => h2 σ G2 H2 _ k2 fun hi ρ3 G3 H3 e3 k3 ⟨ds, hd, p⟩ => by
    subst hd
    subst hK
    cases r1 with
    | @lst a xs _ hq hs =>
      have e23 := e2.trans e3
      exact ⟨a, xs, rfl, seq_of (e23.trans k3.gh) hq, fun b hb => q _ ρ3 _ _ _ (e1.trans e23) (k3.newO hb) (br_new k3 hb ((hs.mono e23).cut lo hi)) p⟩
/-- x[lo:hi], x an own list -/
theorem eb_cutO {K : PySem.W.Frag} {l : Nat} {ds0 : List D} (hK : K = Γ.K) (h0 : ρ[l]? = some (some (.ow (.lst ds0)))) (h : BW Γ tl ρ fun lo ρ2 => BW Γ th ρ2 fun hi ρ3 => ∃ ds, ρ3[l]? = some (some (.ow (.lst ds))) ∧ Ψ (.ow (.lst (cutD ds lo hi))) ρ3) : EB Γ (tSl (rSlL K) (tVar l) tl th) ρ Ψ := fun σ G H Q k q => by
  subst hK
  obtain ⟨a, xs, g0, g1, _⟩ := k.lst h0
  refine ⟨_, g0, ?_⟩
  refine h σ G H _ k fun lo ρ2 G2 H2 e2 k2 h2 => h2 σ G2 H2 _ k2 fun hi ρ3 G3 H3 e3 k3 ⟨ds, hl, p⟩ => ?_
  obtain ⟨a', xs', h1, q1, q2⟩ := k3.lst hl
  rw [g0] at h1
  cases h1
  exact ⟨a, xs', rfl, SqL.of q1, fun b hb => q _ ρ3 _ _ _ (e2.trans e3) (k3.newO hb) (br_new k3 hb (q2.cut lo hi)) p⟩
/-- t + u of tuples -/
theorem ew_catT {K : PySem.W.Frag} (hK : K = Γ.K) (h : EW Γ ta ρ fun x ρ1 => EW Γ tb ρ1 fun y ρ2 => ∃ xs ys, x = .tup xs ∧ y = .tup ys ∧ xs.length + ys.length ≤ 100000 ∧ Φ (.tup (xs ++ ys)) ρ2) : EW Γ (tOp (rCatA K) ta tb) ρ Φ := fun σ G H Q k q =>
  h σ G H _ k fun x ρ1 vx G1 H1 e1 k1 r1 h1 => h1 σ G1 H1 _ k1 fun y ρ2 vy G2 H2 e2 k2 r2 ⟨xs, ys, hx, hy, hz, p⟩ => by
    subst hx
    subst hy
    subst hK
    have r1' := r1.mono e2
    cases r1' with
    | @tup a vs _ hq hs =>
      cases r2 with
      | @tup b ws _ hq' hs' =>
        refine ⟨a, b, vs, ws, rfl, rfl, sq_up k2.gh hq, sq_up k2.gh hq', Evl.sz_of (by rw [hs.length, hs'.length]; exact hz), fun z => ?_, fun _ z => ?_, fun _ _ c hc => ?_⟩
        · subst z
          cases hs
          exact q _ ρ2 _ G2 H2 (e1.trans e2) k2 (.tup hq' hs') p
        · subst z
          cases hs'
          rw [List.append_nil] at p
          exact q _ ρ2 _ G2 H2 (e1.trans e2) k2 (.tup hq hs) p
        · obtain ⟨k4, e4⟩ := k2.new (o := .tup (vs ++ ws)) hc
          exact q _ ρ2 _ _ _ ((e1.trans e2).trans e4) k4 (.tup (SqT.of upd_same) ((hs.append hs').mono e4)) p
/-! ### methods of own lists -/
/-- x.pop(e) -/
theorem ew_popO {K : PySem.W.Frag} {l : Nat} {ds0 : List D} (h0 : ρ[l]? = some (some (.ow (.lst ds0)))) (h : EW Γ te ρ fun d ρ1 => ∃ i ds j y, d = .int i ∧ ρ1[l]? = some (some (.ow (.lst ds))) ∧ (-(2 ^ 63) ≤ i ∧ i < 2 ^ 63) ∧ seqIndex? i ds.length = some j ∧ ds[j]? = some y ∧ Φ y (ρ1.set l (some (.ow (.lst (ds.eraseIdx j)))))) :
    EW Γ (tBM K "list" rPopAt (tVar l) (tCons te tNil)) ρ Φ := fun σ G H Q k q => by
  obtain ⟨a, xs, g0, g1, _⟩ := k.lst h0
  refine ⟨_, g0, .inl ⟨rfl, _, SqL.of g1⟩, ?_⟩
  refine h σ G H _ k fun d ρ1 v G1 H1 e1 k1 r1 ⟨i, ds, j, y, hd, hl, hb, hj, hy, p⟩ => ?_
  subst hd
  cases r1
  obtain ⟨a', xs', h1, q1, q2⟩ := k1.lst hl
  rw [g0] at h1
  cases h1
  obtain ⟨u, hu, ru⟩ := q2.getD hy
  exact ⟨a, xs', i, j, u, rfl, rfl, q1, hb.1, hb.2, by rw [q2.length]; exact hj, hu, q _ _ _ G1 _ e1 (k1.mut hl g0 (.lst (q2.eraseIdx j))) ru p⟩
/-- x.pop() -/
theorem ew_pop0O {K : PySem.W.Frag} {l : Nat} {ds : List D} {y : D} (h0 : ρ[l]? = some (some (.ow (.lst ds)))) (hy : ds[ds.length - 1]? = some y) (p : Φ y (ρ.set l (some (.ow (.lst ds.dropLast))))) : EW Γ (tBM0 K "list" rPop (tVar l)) ρ Φ := fun σ G H Q k q => by
  obtain ⟨a, xs, g0, g1, g2⟩ := k.lst h0
  refine ⟨_, g0, .inl ⟨rfl, _, SqL.of g1⟩, ?_⟩
  obtain ⟨u, hu, ru⟩ := g2.getD hy
  refine ⟨a, xs, u, rfl, rfl, g1, by rw [g2.length]; exact hu, q _ _ _ G _ (Ex.refl G) (k.mut h0 g0 (.lst ?_)) ru p⟩
  rw [List.dropLast_eq_take, List.dropLast_eq_take, g2.length]
  exact g2.take _
/-- x.insert(e, f) -/
theorem sw_ins {K : PySem.W.Frag} {l : Nat} {ds0 : List D} (h0 : ρ[l]? = some (some (.ow (.lst ds0)))) (h : AW Γ ta' ρ fun es ρ1 => ∃ i y ds, es = [.int i, y] ∧ ρ1[l]? = some (some (.ow (.lst ds))) ∧ ds.length < 100000 ∧ (0 ≤ i ∧ i < 2 ^ 63) ∧ Δ.nx (ρ1.set l (some (.ow (.lst (ds.take i.toNat ++ [y] ++ ds.drop i.toNat)))))) :
    SW Γ (tDrop (tBM K "list" (fun x vs H Q => ∃ (l : Addr) (xs : List V) (i : Int) (y : V), x = .ref l ∧ vs = [.int i, y] ∧ H l = some (.lst xs) ∧ xs.length < sizeLine ∧ 0 ≤ i ∧ i < 2 ^ 63 ∧ Q .non (upd H l (.lst (xs.take i.toNat ++ [y] ++ xs.drop i.toNat)))) (tVar l) ta')) ρ Δ := fun σ G H D k hn hr hb hc => by
  obtain ⟨a, xs, g0, g1, _⟩ := k.lst h0
  refine ⟨_, g0, .inl ⟨rfl, _, SqL.of g1⟩, ?_⟩
  refine h σ G H _ k fun es ρ1 vs G1 H1 e1 k1 r1 ⟨i, y, ds, he, hl, hz, hb, p⟩ => ?_
  subst he
  cases r1 with
  | cons r1 r2 => cases r2 with
    | cons r2 r3 =>
      cases r3
      cases r1
      obtain ⟨a', xs', h1, q1, q2⟩ := k1.lst hl
      rw [g0] at h1
      cases h1
      exact ⟨a, xs', i, _, rfl, rfl, q1, by rw [q2.length]; exact Evl.sz_lt hz, hb.1, hb.2, hn _ σ G1 _ e1 (k1.mut hl g0 (.lst (((q2.take _).append (.cons r2 .nil)).append (q2.drop _)))) p⟩
/-! ### for over zip -/
theorem sw_forZ {g : TG} {K : PySem.W.Frag} (hK : K = Γ.K) (h : AW Γ ta' ρ fun es ρ1 => ∃ xs ys, (es = [.lst xs, .lst ys] ∨ es = [.tup xs, .tup ys]) ∧ xs.length = ys.length ∧ ∃ J : Nat → Env → Prop, J 0 ρ1 ∧ (∀ i x y ρ2, xs[i]? = some x → ys[i]? = some y → J i ρ2 → Turn1 Γ g ts Δ (.tup [x, y]) ρ2 (J (i + 1))) ∧ ∀ ρ2, J xs.length ρ2 → Δ.nx ρ2) :
    SW Γ (tFor (RZ.iZipA K ta') g ts) ρ Δ := fun σ G H D k hn hr hb hc =>
  h σ G H _ k fun es ρ1 vs G1 H1 e1 k1 r1 ⟨xs, ys, he, hl, J, i0, is, id⟩ => by
    subst hK
    have new : ∀ {G2 H2 σ2 ρ2 T u w}, Ok Γ G2 H2 σ2 ρ2 → H2 T = none → ∃ G3, Ok Γ G3 (upd H2 T (.tup [u, w])) σ2 ρ2 ∧ Ex G2 G3 ∧ G3 T = some (.tup [u, w]) := fun k hT => by
      obtain ⟨k2, e2⟩ := k.new (o := _) hT
      exact ⟨_, k2, e2, upd_same⟩
    rcases he with rfl | rfl
    · cases r1 with
      | cons r1 r2 => cases r2 with
        | cons r2 r3 =>
          cases r3
          cases r1 with
          | @lst a us _ hq hs => cases r2 with
            | @lst b ws _ hq' hs' =>
              refine ⟨a, b, us, ws, rfl, .inl ⟨seq_of k1.gh hq, seq_of k1.gh hq', ?_⟩⟩
              refine RZ.for_zipL (xs := us) (ys := ws) (by rw [hs.length, hs'.length]; exact hl) (fun i σ H => ∃ G ρ2, Ex G1 G ∧ Ok Γ G H σ ρ2 ∧ J i ρ2) ⟨G1, ρ1, Ex.refl _, k1, i0⟩ (fun i σ H ⟨G2, ρ2, e2, k2, p2⟩ => ⟨seq_of (e2.trans k2.gh) hq, seq_of (e2.trans k2.gh) hq'⟩) (fun i u w T σ H hu hw ⟨G2, ρ2, e2, k2, p2⟩ hT => ?_) (fun σ H ⟨G2, ρ2, e2, k2, p2⟩ => hn ρ2 σ G2 H (e1.trans e2) k2 (id ρ2 (by rw [← hs.length]; exact p2)))
              obtain ⟨x, hx, rx⟩ := hs.get hu
              obtain ⟨y, hy, ry⟩ := hs'.get hw
              obtain ⟨G3, k3, e3, hT3⟩ := new (u := u) (w := w) k2 hT
              have e23 := e2.trans e3
              exact (is i x y ρ2 hx hy p2).run k3 e1 e23 (.tup (SqT.of hT3) (.cons (rx.mono e23) (.cons (ry.mono e23) .nil))) hn hr fun _ _ h => h
    · cases r1 with
      | cons r1 r2 => cases r2 with
        | cons r2 r3 =>
          cases r3
          cases r1 with
          | @tup a us _ hq hs => cases r2 with
            | @tup b ws _ hq' hs' =>
              refine ⟨a, b, us, ws, rfl, .inr ⟨sq_up k1.gh hq, sq_up k1.gh hq', ?_⟩⟩
              refine RZ.for_zipT (xs := us) (ys := ws) (by rw [hs.length, hs'.length]; exact hl) (fun i σ H => ∃ G ρ2, Ex G1 G ∧ Ok Γ G H σ ρ2 ∧ J i ρ2) ⟨G1, ρ1, Ex.refl _, k1, i0⟩ (fun i σ H ⟨G2, ρ2, e2, k2, p2⟩ => ⟨sq_up (e2.trans k2.gh) hq, sq_up (e2.trans k2.gh) hq'⟩) (fun i u w T σ H hu hw ⟨G2, ρ2, e2, k2, p2⟩ hT => ?_) (fun σ H ⟨G2, ρ2, e2, k2, p2⟩ => hn ρ2 σ G2 H (e1.trans e2) k2 (id ρ2 (by rw [← hs.length]; exact p2)))
              obtain ⟨x, hx, rx⟩ := hs.get hu
              obtain ⟨y, hy, ry⟩ := hs'.get hw
              obtain ⟨G3, k3, e3, hT3⟩ := new (u := u) (w := w) k2 hT
              have e23 := e2.trans e3
              exact (is i x y ρ2 hx hy p2).run k3 e1 e23 (.tup (SqT.of hT3) (.cons (rx.mono e23) (.cons (ry.mono e23) .nil))) hn hr fun _ _ h => h
/-! ### min, max, in -/
theorem cbv_max2 {i j : Int} : CbV Γ (fun xs H Q => ∃ i j, xs = [.int i, .int j] ∧ Q (.int (if j > i then j else i)) H) [.int i, .int j] (.int (max i j)) := fun G H vs Q e r q => by
  cases r with
  | cons r r' => cases r' with
    | cons r' r'' =>
      cases r''
      cases r
      cases r'
      refine ⟨i, j, rfl, ?_⟩
      have e : (if j > i then j else i) = max i j := by omega
      rw [e]
      exact q _ (.int _)
theorem cbv_min2 {i j : Int} : CbV Γ (fun xs H Q => ∃ i j, xs = [.int i, .int j] ∧ Q (.int (if j < i then j else i)) H) [.int i, .int j] (.int (min i j)) := fun G H vs Q e r q => by
  cases r with
  | cons r r' => cases r' with
    | cons r' r'' =>
      cases r''
      cases r
      cases r'
      refine ⟨i, j, rfl, ?_⟩
      have e : (if j < i then j else i) = min i j := by omega
      rw [e]
      exact q _ (.int _)
/-! ### x[i] op= e, x an own list of integers at that place -/
theorem sw_augO {l : Nat} {ti : TE} {ds0 : List D} {f : Int → Int → Int} {K : PySem.W.Frag} (hK : K = Γ.K) (h0 : ρ[l]? = some (some (.ow (.lst ds0)))) (h : EW Γ ti ρ fun i ρ1 => ∃ n ds j x, i = .int n ∧ ρ1[l]? = some (some (.ow (.lst ds))) ∧ ixN ds.length n = some j ∧ ds[j]? = some (.int x) ∧
    EW Γ te ρ1 fun y ρ2 => ∃ b ds', y = .int b ∧ ρ2[l]? = some (some (.ow (.lst ds'))) ∧ ds'.length = ds.length ∧ Δ.nx (ρ2.set l (some (.ow (.lst (ds'.set j (.int (f x b)))))))) : SW Γ (tAugS (tVar l) ti te (rIxL K) (ipI f) rSetL) ρ Δ := fun σ G H D k hn hr hb hc => by
  subst hK
  obtain ⟨a, xs, g0, g1, _⟩ := k.lst h0
  refine ⟨_, g0, ?_⟩
  refine h σ G H _ k fun i ρ1 vi G1 H1 e1 k1 r1 ⟨n, ds, j, x, hi, hl, hj, hx, h2⟩ => ?_
  subst hi
  cases r1
  obtain ⟨a', xs', h1, q1, q2⟩ := k1.lst hl
  rw [g0] at h1
  cases h1
  obtain ⟨u, hu, ru⟩ := q2.getD hx
  cases ru
  have hat : atI xs' n = some (V.int x) := by
    show (ixN xs'.length n).bind _ = _
    rw [q2.length, hj]
    exact hu
  refine ⟨a, xs', n, _, rfl, rfl, SqL.of q1, hat, ?_⟩
  refine h2 σ G1 H1 _ k1 fun y ρ2 vy G2 H2 e2 k2 r2 ⟨b, ds', hy, hl2, hd, p⟩ => ?_
  subst hy
  cases r2
  obtain ⟨a2, xs2, h2', q3, q4⟩ := k2.lst hl2
  rw [g0] at h2'
  cases h2'
  exact ⟨x, b, rfl, rfl, a, xs2, n, j, rfl, rfl, q3, by rw [q4.length, hd]; exact hj, hn _ σ G2 _ (e1.trans e2) (k2.mut hl2 g0 (.lst (RepL.set (.int _) j q4))) p⟩
/-! ### comprehensions that take each item to f of it -/
theorem get_take {α : Type} : ∀ {l : List α} {i : Nat} {x : α}, l[i]? = some x → l.take (i + 1) = l.take i ++ [x]
  | [], i, x, h => by simp at h
  | a :: l, 0, x, h => by
    have e : a = x := Option.some.inj h
    subst e
    rfl
  | a :: l, i + 1, x, h => by
    show a :: l.take (i + 1) = a :: l.take i ++ [x]
    rw [get_take (l := l) (i := i) (x := x) h]
    rfl
/-- what a comprehension over ds asks, that takes each item to f of it -/
def Maps (Γ : Ctx) (j : Nat) (te : TE) (ds : List D) (ρ1 : Env) (Ψ : B → Env → Prop) : Prop := (∀ es, ρ1[j]? ≠ some (some (.ow es))) ∧ ds.length ≤ 99999 ∧ ∃ f : D → D, (∀ x ∈ ds, ∀ c, EW (Γ.ext c) te (ρ1.set j (some (.fz x))) fun y ρ4 => ρ4 = ρ1.set j (some (.fz x)) ∧ y = f x) ∧ Ψ (.ow (.lst (ds.map f))) ρ1
theorem wipe_one {j : Nat} {b : Option B} : wipeE ((wipeE ρ [j]).set j b) [j] = wipeE ρ [j] := by
  show ((ρ.set j none).set j b).set j none = ρ.set j none
  rw [List.set_set, List.set_set]
theorem Maps.comp {j : Nat} {ds : List D} (h : Maps Γ j te ds ρ Ψ) : Comp Γ (gName j) [j] tYes te ds ρ Ψ := by
  obtain ⟨h1, h2, f, h3, h4⟩ := h
  refine ⟨gw_name (List.mem_singleton.mpr rfl), fun i hi es => ?_, h2, fun i acc => acc = (ds.take i).map f, rfl, fun i x acc c hx ha => ?_, fun acc ha => ?_⟩
  · rw [List.mem_singleton.mp hi]
    exact h1 es
  · subst ha
    have e0 : (wipeE ρ [j]).set j (some (.fz x)) = ρ.set j (some (.fz x)) := List.set_set ..
    refine ⟨_, gd_name, wipe_one, tw_yes ⟨rfl, fun _ => ?_, fun z => Bool.noConfusion z⟩⟩
    rw [e0]
    refine fun σ G H Q k q => h3 x (List.mem_of_getElem? hx) c σ G H Q k fun y ρ4 v G1 H1 e1 k1 r1 ⟨p1, p2⟩ => q y ρ4 v G1 H1 e1 k1 r1 ⟨p1, ?_⟩
    show (ds.take i).map f ++ [y] = (ds.take (i + 1)).map f
    rw [p2, get_take hx, List.map_append]
    rfl
  · rw [ha, List.take_length]
    exact h4
theorem eb_mapT {K : PySem.W.Frag} {te0 : TE} {j : Nat} {vs : List Nat} (hv : vs = [j]) (hK : K = Γ.K) (h : EW Γ te0 ρ fun d ρ1 => ∃ ds, d = .tup ds ∧ Maps Γ j te ds ρ1 Ψ) : EB Γ (tLc (iTup K te0) (gName j) tYes te vs) ρ Ψ := by
  subst hv
  exact eb_lcT hK fun σ G H Q k q => h σ G H Q k fun d ρ1 v G1 H1 e1 k1 r1 ⟨ds, hd, m⟩ => q d ρ1 v G1 H1 e1 k1 r1 ⟨ds, hd, m.comp⟩
theorem eb_mapL {K : PySem.W.Frag} {te0 : TE} {j : Nat} {vs : List Nat} (hv : vs = [j]) (hK : K = Γ.K) (h : EW Γ te0 ρ fun d ρ1 => ∃ ds, d = .lst ds ∧ Maps Γ j te ds ρ1 Ψ) : EB Γ (tLc (iList K te0) (gName j) tYes te vs) ρ Ψ := by
  subst hv
  exact eb_lcL hK fun σ G H Q k q => h σ G H Q k fun d ρ1 v G1 H1 e1 k1 r1 ⟨ds, hd, m⟩ => q d ρ1 v G1 H1 e1 k1 r1 ⟨ds, hd, m.comp⟩
theorem eb_mapR {j : Nat} {vs : List Nat} (hv : vs = [j]) (h : AW Γ ta' ρ fun ds ρ1 => ∃ n : Int, ds = [.int n] ∧ -100 ≤ n ∧ Maps Γ j te (rngD n.toNat) ρ1 Ψ) : EB Γ (tLc (iRng1 ta') (gName j) tYes te vs) ρ Ψ := by
  subst hv
  exact eb_lcR fun σ G H Q k q => h σ G H Q k fun d ρ1 v G1 H1 e1 k1 r1 ⟨n, hd, hn, m⟩ => q d ρ1 v G1 H1 e1 k1 r1 ⟨n, hd, hn, m.comp⟩
/-- not e, e no truth value -/
theorem ew_notT {K : PySem.W.Frag} (hK : K = Γ.K) (h : EW Γ ta ρ fun d ρ1 => ∃ b, truD d = some b ∧ Φ (.bl (!b)) ρ1) : EW Γ (tNotT K ta) ρ Φ := fun σ G H Q k q => tw_tru (Θ := fun b ρ1 => Φ (.bl (!b)) ρ1) hK h σ G H (fun b H' => Q (.bl (!b)) H') k fun b ρ1 G1 H1 e1 k1 p => q _ ρ1 _ G1 H1 e1 k1 (.bl _) p
theorem cbv_allM {α : Type} {K : PySem.W.Frag} {xs : List α} {f : α → Bool} (hK : K = Γ.K) : CbV Γ (rAll K) [.lst (xs.map fun x => D.bl (f x))] (.bl (xs.all f)) := by
  have e : (xs.map fun x => D.bl (f x)) = (xs.map f).map D.bl := by rw [List.map_map]; rfl
  have e2 : xs.all f = (xs.map f).all id := by rw [List.all_map]; rfl
  rw [e, e2]
  exact cbv_all hK
theorem cbv_anyM {α : Type} {K : PySem.W.Frag} {xs : List α} {f : α → Bool} (hK : K = Γ.K) : CbV Γ (rAny K) [.lst (xs.map fun x => D.bl (f x))] (.bl (xs.any f)) := by
  have e : (xs.map fun x => D.bl (f x)) = (xs.map f).map D.bl := by rw [List.map_map]; rfl
  have e2 : xs.any f = (xs.map f).any id := by rw [List.any_map]; rfl
  rw [e, e2]
  exact cbv_any hK
theorem cbv_sumM {α : Type} {K : PySem.W.Frag} {xs : List α} {f : α → Int} (hK : K = Γ.K) : CbV Γ (rSum K) [.lst (xs.map fun x => D.int (f x))] (.int (xs.map f).sum) := by
  have e : (xs.map fun x => D.int (f x)) = (xs.map f).map D.int := by rw [List.map_map]; rfl
  rw [e]
  exact cbv_sum hK
theorem KE.ext {Ξ : Addr → Str → D → Prop} {E : XK} {c : Addr × HO} (k : KE Γ Ξ E) : KE (Γ.ext c) Ξ E := fun C f v d dd σ' ρ' G' H' ok x r xi => k C f v d dd σ' ρ' G' H' ok.unext ⟨x.at_, x.nf, fun p hp => x.nx p (List.mem_cons_of_mem _ hp), x.nh⟩ r xi
/-! ### in -/
def flatD : D → Bool
  | .non => true | .bl _ => true | .int _ => true | .str _ => true
  | _ => false
def toV : D → V
  | .bl b => .bl b | .int i => .int i | .str x => .str x
  | _ => .non
/-- == of flat data -/
def eqF : D → D → Bool
  | .non, .non => true
  | .bl a, .bl b => a == b
  | .bl a, .int b => (if a then 1 else 0) == b
  | .int a, .bl b => a == (if b then 1 else 0)
  | .int a, .int b => a == b
  | .str a, .str b => a == b
  | _, _ => false
theorem flat_rep {K : PySem.W.Frag} {G : Hp} {v : V} {d : D} (r : Rep K G v d) (h : flatD d = true) : v = toV d := by
  cases r <;> first | rfl | cases h
theorem flat_reps {K : PySem.W.Frag} {G : Hp} : ∀ {vs : List V} {ds : List D}, RepL K G vs ds → ds.all flatD = true → vs = ds.map toV
  | _, _, .nil, _ => rfl
  | _, _, .cons r rs, h => by
    rw [List.all_cons, Bool.and_eq_true] at h
    rw [flat_rep r h.1, flat_reps rs h.2]
    rfl
theorem flat_v {d : D} (h : flatD d = true) : flatV (toV d) = true := by cases d <;> first | rfl | cases h
theorem eqV_to {a b : D} (ha : flatD a = true) (hb : flatD b = true) : eqV (toV a) (toV b) = eqF a b := by
  cases a <;> first | (cases ha; done) | skip
  all_goals cases b <;> first | rfl | cases hb
theorem inV_to {x : D} {ys : List D} (hx : flatD x = true) (hy : ys.all flatD = true) : inV (toV x) (ys.map toV) = ys.any fun y => eqF y x := by
  unfold inV
  induction ys with
  | nil => rfl
  | cons y ys ih =>
    rw [List.all_cons, Bool.and_eq_true] at hy
    rw [List.map_cons, List.any_cons, List.any_cons, ih hy.2, eqV_to hy.1 hx]
theorem all_flat {ys : List D} (hy : ys.all flatD = true) : (ys.map toV).all flatV = true := by
  induction ys with
  | nil => rfl
  | cons y ys ih =>
    rw [List.all_cons, Bool.and_eq_true] at hy
    rw [List.map_cons, List.all_cons, flat_v hy.1, ih hy.2]
    rfl
theorem opv_inT {K : PySem.W.Frag} {n : Bool} {x : D} {ys : List D} (hK : K = Γ.K) (hx : flatD x = true) (hy : ys.all flatD = true) : OpV Γ (rIn K n) x (.tup ys) (.bl (if n then !(ys.any fun y => eqF y x) else ys.any fun y => eqF y x)) := fun G H vx vy Q e rx ry q => by
  subst hK
  cases ry with
  | @tup a vs _ hq hs =>
    have e1 := flat_rep rx hx
    have e2 := flat_reps hs hy
    subst e1 e2
    exact ⟨a, _, rfl, .inr (sq_up e hq), flat_v hx, all_flat hy, by rw [inV_to hx hy]; exact q _ (.bl _)⟩
theorem opv_inL {K : PySem.W.Frag} {n : Bool} {x : D} {ys : List D} (hK : K = Γ.K) (hx : flatD x = true) (hy : ys.all flatD = true) : OpV Γ (rIn K n) x (.lst ys) (.bl (if n then !(ys.any fun y => eqF y x) else ys.any fun y => eqF y x)) := fun G H vx vy Q e rx ry q => by
  subst hK
  cases ry with
  | @lst a vs _ hq hs =>
    have e1 := flat_rep rx hx
    have e2 := flat_reps hs hy
    subst e1 e2
    exact ⟨a, _, rfl, .inl (seq_of e hq), flat_v hx, all_flat hy, by rw [inV_to hx hy]; exact q _ (.bl _)⟩
/-! ### comprehensions over pairs -/
def Maps2 (Γ : Ctx) (i j : Nat) (te : TE) (ds : List D) (ρ1 : Env) (Ψ : B → Env → Prop) : Prop := (∀ es, ρ1[i]? ≠ some (some (.ow es))) ∧ (∀ es, ρ1[j]? ≠ some (some (.ow es))) ∧ ds.length ≤ 99999 ∧ ∃ f : D → D,
  (∀ x ∈ ds, ∃ a b, x = .tup [a, b] ∧ ∀ c, EW (Γ.ext c) te ((ρ1.set i (some (.fz a))).set j (some (.fz b))) fun y ρ4 => ρ4 = (ρ1.set i (some (.fz a))).set j (some (.fz b)) ∧ y = f x) ∧ Ψ (.ow (.lst (ds.map f))) ρ1
theorem set_two {i j : Nat} (hij : i ≠ j) {a b : Option B} : ((wipeE ρ [i, j]).set i a).set j b = (ρ.set i a).set j b := by
  show ((((ρ.set j none).set i none).set i a).set j b) = _
  rw [List.set_set, List.set_comm _ _ hij.symm, List.set_set]
theorem wipe_two {i j : Nat} (hij : i ≠ j) {a b : Option B} : wipeE ((ρ.set i a).set j b) [i, j] = wipeE ρ [i, j] := by
  show (((ρ.set i a).set j b).set j none).set i none = (ρ.set j none).set i none
  rw [List.set_set, List.set_comm _ _ hij.symm, List.set_comm _ _ hij, List.set_comm _ _ hij.symm, List.set_set, List.set_comm _ _ hij]
theorem Maps2.comp {K : PySem.W.Frag} {i j n : Nat} {ds : List D} (hK : K = Γ.K) (hn : n = 2) (hij : i ≠ j) (h : Maps2 Γ i j te ds ρ Ψ) : Comp Γ (gTup K n (gCons (gName i) (gCons (gName j) gNil))) [i, j] tYes te ds ρ Ψ := by
  subst hn
  obtain ⟨h0, h1, h2, f, h3, h4⟩ := h
  refine ⟨gw_tup (is := [i, j]) rfl fun a ha => ha, fun l hl es => ?_, h2, fun i acc => acc = (ds.take i).map f, rfl, fun l x acc c hx ha => ?_, fun acc ha => ?_⟩
  · rcases List.mem_cons.mp hl with rfl | hl
    · exact h0 es
    · rw [List.mem_singleton.mp hl]
      exact h1 es
  · subst ha
    obtain ⟨a, b, rfl, h5⟩ := h3 x (List.mem_of_getElem? hx)
    have e0 := set_two (ρ := ρ) hij (a := some (.fz a)) (b := some (.fz b))
    refine ⟨_, gd_tup (is := [i, j]) hK rfl rfl rfl, ?_, tw_yes ⟨rfl, fun _ => ?_, fun z => Bool.noConfusion z⟩⟩
    · show wipeE (((wipeE ρ [i, j]).set i _).set j _) [i, j] = _
      rw [e0]
      exact wipe_two hij
    · show EW (Γ.ext c) te (((wipeE ρ [i, j]).set i _).set j _) _
      have e1 : sets (wipeE ρ [i, j]) [i, j] [a, b] = (ρ.set i (some (.fz a))).set j (some (.fz b)) := e0
      rw [e0]
      refine fun σ G H Q k q => h5 c σ G H Q k fun y ρ4 v G1 H1 e1' k1 r1 ⟨p1, p2⟩ => q y ρ4 v G1 H1 e1' k1 r1 ⟨p1.trans e1.symm, ?_⟩
      show (ds.take l).map f ++ [y] = (ds.take (l + 1)).map f
      rw [p2, get_take hx, List.map_append]
      rfl
  · rw [ha, List.take_length]
    exact h4
theorem eb_map2T {K K' : PySem.W.Frag} {te0 : TE} {i j n : Nat} {vs : List Nat} (hv : vs = [i, j]) (hK : K = Γ.K) (hK' : K' = Γ.K) (hn : n = 2) (hij : i ≠ j) (h : EW Γ te0 ρ fun d ρ1 => ∃ ds, d = .tup ds ∧ Maps2 Γ i j te ds ρ1 Ψ) : EB Γ (tLc (iTup K te0) (gTup K' n (gCons (gName i) (gCons (gName j) gNil))) tYes te vs) ρ Ψ := by
  subst hv
  exact eb_lcT hK fun σ G H Q k q => h σ G H Q k fun d ρ1 v G1 H1 e1 k1 r1 ⟨ds, hd, m⟩ => q d ρ1 v G1 H1 e1 k1 r1 ⟨ds, hd, m.comp hK' hn hij⟩
theorem eb_map2L {K K' : PySem.W.Frag} {te0 : TE} {i j n : Nat} {vs : List Nat} (hv : vs = [i, j]) (hK : K = Γ.K) (hK' : K' = Γ.K) (hn : n = 2) (hij : i ≠ j) (h : EW Γ te0 ρ fun d ρ1 => ∃ ds, d = .lst ds ∧ Maps2 Γ i j te ds ρ1 Ψ) : EB Γ (tLc (iList K te0) (gTup K' n (gCons (gName i) (gCons (gName j) gNil))) tYes te vs) ρ Ψ := by
  subst hv
  exact eb_lcL hK fun σ G H Q k q => h σ G H Q k fun d ρ1 v G1 H1 e1 k1 r1 ⟨ds, hd, m⟩ => q d ρ1 v G1 H1 e1 k1 r1 ⟨ds, hd, m.comp hK' hn hij⟩
/-! ### [..] * n -/
theorem RepL.flat {K : PySem.W.Frag} {G : Hp} {vs : List V} {ds : List D} (r : RepL K G vs ds) : ∀ n : Nat, RepL K G (List.replicate n vs).flatten (List.replicate n ds).flatten
  | 0 => .nil
  | n + 1 => by
    rw [List.replicate_succ, List.replicate_succ, List.flatten_cons, List.flatten_cons]
    exact r.append (r.flat n)
theorem eb_rep (h : AW Γ ta' ρ fun ds ρ1 => ds.length ≤ 1000 ∧ ∀ c, EW (Γ.ext c) tb ρ1 fun d ρ2 => ∃ k : Int, d = .int k ∧ (-1000000 ≤ k ∧ k ≤ 1000000) ∧ ds.length * k.toNat ≤ 100000 ∧ Ψ (.ow (.lst (List.replicate k.toNat ds).flatten)) ρ2) : EB Γ (tOp rRep (tLst ta') tb) ρ Ψ := fun σ G H Q k q =>
  h σ G H _ k fun ds ρ1 vs G1 H1 e1 k1 r1 ⟨hl, h2⟩ => ⟨Evl.sz_of (by rw [r1.length]; omega), fun p hp => by
    have k2 := k1.newO (o := .lst vs) hp
    have b := br_new k1 hp r1
    obtain ⟨⟨_, _, ep, _, _, gp, fp, _⟩, b2⟩ := b
    cases ep
    refine h2 (p, .lst vs) σ G1 _ _ (k2.ext upd_same gp fp (b2 _ rfl _ rfl).1) fun d ρ2 v G2 H2 e2 k3 r2 ⟨n, hd, hn, hz, ps⟩ => ?_
    subst hd
    cases r2
    have at_ := (k3.cel (p, .lst vs) List.mem_cons_self).1
    refine ⟨p, n, vs, rfl, rfl, at_, by omega, by omega, Evl.sz_of (by rw [r1.length]; exact hz), fun c hc => ?_⟩
    exact q _ ρ2 _ _ _ (e1.trans e2) (k3.unext.newO hc) (br_new k3.unext hc ((r1.mono e2).flat _)) ps⟩
theorem flat_rep1 {n : Nat} {d : D} : (List.replicate n [d]).flatten = List.replicate n d := by
  induction n with
  | zero => rfl
  | succ n ih => rw [List.replicate_succ, List.flatten_cons, ih, List.replicate_succ]; rfl
theorem gd_pair {K : PySem.W.Frag} {n : Nat} {g1 g2 : TG} {a b : D} {ρ1 ρ2 : Env} (hK : K = Γ.K) (hn : n = 2) (h1 : GD Γ g1 a ρ ρ1) (h2 : GD Γ g2 b ρ1 ρ2) : GD Γ (gTup K n (gCons g1 (gCons g2 gNil))) (.tup [a, b]) ρ ρ2 := fun σ G H v Q k r q => by
  subst hK
  subst hn
  cases r with
  | tup hq hs => cases hs with
    | cons ra hs => cases hs with
      | cons rb hs =>
        cases hs
        exact ⟨_, _, rfl, sq_up k.gh hq, rfl, _, _, rfl, h1 σ G H _ _ k ra fun σ' k' => ⟨_, _, rfl, h2 σ' G H _ _ k' rb fun σ'' k'' => ⟨rfl, q σ'' k''⟩⟩⟩
theorem ints_at {S : List Int} {j : Nat} (h : j < S.length) : (S.map D.int)[j]? = some (.int (S.getD j 0)) := by
  rw [List.getElem?_map, List.getElem?_eq_getElem h, List.getD_eq_getElem?_getD, List.getElem?_eq_getElem h]
  rfl
theorem ixN_of {m : Nat} {n : Int} (h0 : 0 ≤ n) (h : n < m) : ixN m n = some n.toNat := by
  unfold ixN
  rw [if_pos h0, if_pos h]
/-- x[i] op= e, x an own list of integers; i and e leave the slots as they are -/
theorem sw_augI {l : Nat} {ti : TE} {S : List Int} {f : Int → Int → Int} {K : PySem.W.Frag} (hK : K = Γ.K) (h0 : ρ[l]? = some (some (.ow (.lst (S.map D.int))))) (h : EW Γ ti ρ fun i ρ1 => ∃ n, i = .int n ∧ ρ1 = ρ ∧ 0 ≤ n ∧ n < S.length ∧
    EW Γ te ρ fun y ρ2 => ∃ b, y = .int b ∧ ρ2 = ρ ∧ Δ.nx (ρ.set l (some (.ow (.lst ((S.set n.toNat (f (S.getD n.toNat 0) b)).map D.int)))))) : SW Γ (tAugS (tVar l) ti te (rIxL K) (ipI f) rSetL) ρ Δ :=
  sw_augO hK h0 fun σ G H Q k q => h σ G H Q k fun i ρ1 v G1 H1 e1 k1 r1 ⟨n, hi, hρ, n0, n1, h2⟩ => q i ρ1 v G1 H1 e1 k1 r1 ⟨n, S.map D.int, n.toNat, S.getD n.toNat 0, hi, by rw [hρ]; exact h0, by rw [List.length_map]; exact ixN_of n0 n1, ints_at (by omega), by
    subst hρ
    exact fun σ G H Q k q => h2 σ G H Q k fun y ρ2 v G1 H1 e1 k1 r1 ⟨b, hy, hρ2, p⟩ => q y ρ2 v G1 H1 e1 k1 r1 ⟨b, S.map D.int, hy, by rw [hρ2]; exact h0, rfl, by
      subst hρ2
      rw [List.map_set] at p
      exact p⟩⟩
theorem opv_ixI {K : PySem.W.Frag} {S : List Int} {n : Int} (hK : K = Γ.K) (h0 : 0 ≤ n) (h : n < S.length) : OpV Γ (rIxT K) (.tup (S.map D.int)) (.int n) (.int (S.getD n.toNat 0)) := opv_ixT hK (by
  unfold atI
  rw [List.length_map, ixN_of h0 h]
  exact ints_at (by omega))
theorem opv_ixIL {K : PySem.W.Frag} {S : List Int} {n : Int} (hK : K = Γ.K) (h0 : 0 ≤ n) (h : n < S.length) : OpV Γ (rIxL K) (.lst (S.map D.int)) (.int n) (.int (S.getD n.toNat 0)) := opv_ixL hK (by
  unfold atI
  rw [List.length_map, ixN_of h0 h]
  exact ints_at (by omega))
/-- x[i] of an own list of integers -/
theorem ew_ixIO {K : PySem.W.Frag} {l : Nat} {S : List Int} (hK : K = Γ.K) (h0 : ρ[l]? = some (some (.ow (.lst (S.map D.int))))) (h : EW Γ te ρ fun i ρ1 => ∃ n, i = .int n ∧ ρ1 = ρ ∧ 0 ≤ n ∧ n < S.length ∧ Φ (.int (S.getD n.toNat 0)) ρ) : EW Γ (tOp (rIxL K) (tVar l) te) ρ Φ :=
  ew_ixO hK h0 fun σ G H Q k q => h σ G H Q k fun i ρ1 v G1 H1 e1 k1 r1 ⟨n, hi, hρ, n0, n1, p⟩ => q i ρ1 v G1 H1 e1 k1 r1 ⟨n, S.map D.int, .int (S.getD n.toNat 0), hi, by rw [hρ]; exact h0, by
    unfold atI
    rw [List.length_map, ixN_of n0 n1]
    exact ints_at (by omega), by rw [hρ]; exact p⟩
/-- x[i] = e, x an own list of integers; i and e leave the slots as they are -/
theorem sw_setI {l : Nat} {ti : TE} {S : List Int} (h0 : ρ[l]? = some (some (.ow (.lst (S.map D.int))))) (h : EW Γ te ρ fun y ρ1 => ∃ b, y = .int b ∧ ρ1 = ρ ∧ EW Γ ti ρ fun i ρ2 => ∃ n, i = .int n ∧ ρ2 = ρ ∧ 0 ≤ n ∧ n < S.length ∧ Δ.nx (ρ.set l (some (.ow (.lst ((S.set n.toNat b).map D.int)))))) : SW Γ (tAsg te (gSub (tVar l) ti rSetL)) ρ Δ :=
  sw_setO h0 fun σ G H Q k q => h σ G H Q k fun y ρ1 v G1 H1 e1 k1 r1 ⟨b, hy, hρ, h2⟩ => q y ρ1 v G1 H1 e1 k1 r1 (by
    subst hρ
    exact fun σ G H Q k q => h2 σ G H Q k fun i ρ2 v G1 H1 e1 k1 r1 ⟨n, hi, hρ2, n0, n1, p⟩ => q i ρ2 v G1 H1 e1 k1 r1 ⟨n, n.toNat, S.map D.int, hi, h0, by rw [hρ2]; exact h0, by rw [List.length_map]; exact ixN_of n0 n1, by
      subst hρ2
      rw [hy]
      rw [List.map_set] at p
      exact p⟩)
end
end Dl

/-! Dn: max and min of tuples, calls with keywords in any order -/
namespace L2
open PySem PySem.Spec PyProof.Rows
abbrev rLenS (K : PySem.W.Frag) : List V → Hp → VK → Prop := fun xs H Q => ∃ p ys, xs = [.ref p] ∧ (SqL K H p ys ∨ SqT K H p ys) ∧ Q (.int ys.length) H
abbrev rListOf (K : PySem.W.Frag) : List V → Hp → VK → Prop := fun xs H Q => ∃ p ys, xs = [.ref p] ∧ (SqL K H p ys ∨ SqT K H p ys) ∧ ∀ l, H l = none → Q (.ref l) (upd H l (.lst ys))
abbrev rTupOf (K : PySem.W.Frag) : List V → Hp → VK → Prop := fun xs H Q => ∃ p ys, xs = [.ref p] ∧ ((SqL K H p ys ∧ ∀ l, H l = none → Q (.ref l) (upd H l (.tup ys))) ∨ (SqT K H p ys ∧ Q (.ref p) H))
section
variable {X : Cx}
def rMaxT (K : PySem.W.Frag) : List V → Hp → VK → Prop := fun vs H Q => ∃ (a : Addr) (ns : List Int), vs = [V.ref a] ∧ SqT K H a (ns.map V.int) ∧ 0 < ns.length ∧ ∀ m, m ∈ ns → (∀ y, y ∈ ns → y ≤ m) → Q (.int m) H
def rMinT (K : PySem.W.Frag) : List V → Hp → VK → Prop := fun vs H Q => ∃ (a : Addr) (ns : List Int), vs = [V.ref a] ∧ SqT K H a (ns.map V.int) ∧ 0 < ns.length ∧ ∀ m, m ∈ ns → (∀ y, y ∈ ns → m ≤ y) → Q (.int m) H
theorem iter_tupI {prog : Program} {w : World} {A : Around} {E : Value → Shared → Prop} {s : Shared} {l : Addr} {items : Array Value} {Q : Value → Shared → Prop} (hl : s.heap.IsTuple l items)
    (h : ∀ s₂ : Shared, s₂ = { s with heap := s.heap.push { cls := .type "tuple_iterator", data := .fields #[.ref l, .int 0 0] } } →
      (s₂.heap.IsTupleIter s.heap.objs.size l 0 ∧ s₂.heap.IsTuple l items) → (∀ b ∈ [s.heap.objs.size, l], b < s₂.heap.objs.size) → l ≠ s.heap.objs.size → Q (.ref s.heap.objs.size) s₂) : wpAny (model prog w) A (pyIter (.ref l)) Q E s := by
  have hlt : l < s.heap.objs.size := by obtain ⟨_, e, _⟩ := hl; exact Heap.lt_size e
  refine wpAny_pyIter_tuple hl (h _ rfl ⟨⟨_, Heap.get?_push_size _ rfl, rfl, rfl⟩, hl.at fun o e => Heap.get?_push_of_some _ e⟩ (fun b hb => ?_) (Nat.ne_of_lt hlt))
  show b < (s.heap.push _).objs.size
  rw [Heap.size_push]
  rcases List.mem_cons.mp hb with rfl | hb
  · exact Nat.lt_succ_self _
  · rw [List.mem_singleton.mp hb]
    exact Nat.lt_succ_of_lt hlt
theorem old_keptT {s : Shared} {l : Addr} {h' : Heap} (hk : ∀ b o, b ∉ [s.heap.objs.size] → (s.heap.push { cls := .type "tuple_iterator", data := .fields #[.ref l, .int 0 0] }).get? b = some o → h'.get? b = some o) :
    ∀ b o, s.heap.get? b = some o → h'.get? b = some o := fun b o e => by
  refine hk b o (fun hm => ?_) (Heap.get?_push_of_some _ e)
  rcases List.mem_cons.mp hm with e1 | hm
  · exact absurd (e1 ▸ Heap.lt_size e) (Nat.lt_irrefl _)
  · cases hm
theorem cr_maxT (hc : X.calm = true) : CallR X (.builtin "max") (rMaxT X.K) := by
  intro pins s σ H vs us Q I r h
  obtain ⟨a, ns, rfl, hs, hne, q⟩ := h
  obtain ⟨its, rv, hl, _⟩ := I.tuple hs
  rw [Vals.ref1 r]
  have hi := rv.ints
  obtain ⟨xs, e⟩ := hi.allInts.items
  have hn : numsOf (intItems xs).toList = ns := by rw [← e]; exact hi.numsOf
  rw [nums_intItems] at hn
  subst hn
  have ht : s.heap.IsTuple a its.toArray := hl
  rw [e] at ht
  have hsz : 0 < xs.size := by simpa using hne
  refine call_max_walk (iter_tupI ht fun s₂ e st hfp hlI => ?_)
  subst e
  refine ⟨_, _, _, _, _, _, _, rfl, Walks.tuple (A := X.A.in1) (I.ok.hd hc) _ a hlI (intItems xs), st, hfp, by simpa [intItems] using hsz, CmpOf.ints_gt (numAt xs) (fun _ _ => intItems_at), fun v h' tk hP hk => ?_⟩
  obtain ⟨t, rfl⟩ := intItems_at hP
  obtain ⟨h1, h2⟩ := argBest_gt (numAt xs) ((intItems xs).size - 1)
  have hz : (intItems xs).size = xs.size := by simp [intItems]
  refine ⟨.int _, H, I.kept (old_keptT hk), ⟨_, rfl⟩, q _ ?_ fun a ha => ?_⟩
  · rw [numAt_eq]; exact PySem.getD_mem (by rw [List.length_map, Array.length_toList]; omega)
  · obtain ⟨j, hj, rfl⟩ := mem_getD ha
    rw [List.length_map, Array.length_toList] at hj
    rw [← numAt_eq]; exact h2 j (by omega)
theorem cr_minT (hc : X.calm = true) : CallR X (.builtin "min") (rMinT X.K) := by
  intro pins s σ H vs us Q I r h
  obtain ⟨a, ns, rfl, hs, hne, q⟩ := h
  obtain ⟨its, rv, hl, _⟩ := I.tuple hs
  rw [Vals.ref1 r]
  have hi := rv.ints
  obtain ⟨xs, e⟩ := hi.allInts.items
  have hn : numsOf (intItems xs).toList = ns := by rw [← e]; exact hi.numsOf
  rw [nums_intItems] at hn
  subst hn
  have ht : s.heap.IsTuple a its.toArray := hl
  rw [e] at ht
  have hsz : 0 < xs.size := by simpa using hne
  refine call_min_walk (iter_tupI ht fun s₂ e st hfp hlI => ?_)
  subst e
  refine ⟨_, _, _, _, _, _, _, rfl, Walks.tuple (A := X.A.in1) (I.ok.hd hc) _ a hlI (intItems xs), st, hfp, by simpa [intItems] using hsz, CmpOf.ints_lt (numAt xs) (fun _ _ => intItems_at), fun v h' tk hP hk => ?_⟩
  obtain ⟨t, rfl⟩ := intItems_at hP
  obtain ⟨h1, h2⟩ := argBest_lt (numAt xs) ((intItems xs).size - 1)
  have hz : (intItems xs).size = xs.size := by simp [intItems]
  refine ⟨.int _, H, I.kept (old_keptT hk), ⟨_, rfl⟩, q _ ?_ fun a ha => ?_⟩
  · rw [numAt_eq]; exact PySem.getD_mem (by rw [List.length_map, Array.length_toList]; omega)
  · obtain ⟨j, hj, rfl⟩ := mem_getD ha
    rw [List.length_map, Array.length_toList] at hj
    rw [← numAt_eq]; exact h2 j (by omega)
end
/-- the scope of a comprehension within another one's -/
def relSc (scope osc : Scope) : Scope := { scope with names := scope.names.map fun (n, k) => if (k == .free && osc.kind == .function && osc.names.lookup n == some .cell) then (n, .cell) else (n, k) }
theorem relab_eq {scope : Scope} {env : PySem.Env} : relabel scope env = relSc scope env.scope := rfl
/-! ### calls with keywords: n arguments, m keywords; perm tells where each parameter is taken from -/
def kwP {α : Type} (n m : Nat) (perm : List Nat) (us ws : List α) : List α := if us.length = n ∧ ws.length = m then perm.filterMap fun i => (us ++ ws)[i]? else []
theorem kwP_val {n m : Nat} {perm : List Nat} {vs zs : List V} {us ws : List Value} (r1 : Vals vs us) (r2 : Vals zs ws) : Vals (kwP n m perm vs zs) (kwP n m perm us ws) := by
  unfold kwP
  rw [r1.length, r2.length]
  split
  · have r := r1.append r2
    induction perm with
    | nil => exact .nil
    | cons i perm ih =>
      rw [List.filterMap_cons, List.filterMap_cons]
      cases e : (vs ++ zs)[i]? with
      | none =>
        rw [r.none_of e]
        exact ih
      | some x =>
        obtain ⟨u, hu, ru⟩ := r.get e
        rw [hu]
        exact .cons ru ih
  · exact .nil
theorem kbP {K : PySem.W.Frag} {x qual : Str} {st : Stmt} {f : Addr} {fd : FuncData} {ps ks : List Str} {n m : Nat} {perm : List Nat} (F : Fun K x qual st f fd) (hne : 0 < ps.length)
    (h : ∀ (kV doc pm : Value) (an : Option Addr) (cdv ct : Value) (us ws : List Value), us.length = n → ws.length = m → bindArgs (PySem.W.fnOf x qual (defArgs st) (defBody st) (defScope st) .none kV doc pm an cdv ct) ⟨us, ks.zip ws⟩ = pure (ps.zip (kwP n m perm us ws))) : KBinds K fd ps ks (kwP n m perm) (kwP n m perm) := by
  obtain ⟨oc, od, kV, doc, pm, an, cdv, ct, osl, rfl, lk, hcd⟩ := F.ex
  refine ⟨fun s us ws _ hl => ?_, fun r1 r2 => kwP_val r1 r2⟩
  by_cases hc : us.length = n ∧ ws.length = m
  · exact BindsTo.of_eq (h kV doc pm an cdv ct us ws hc.1 hc.2)
  · unfold kwP at hl
    rw [if_neg hc] at hl
    exact absurd hl (by simp; omega)
end L2
namespace Dl
open PySem L2
open Evl (Ex)
theorem rep_kwP {K : PySem.W.Frag} {G : Hp} {n m : Nat} {perm : List Nat} {vs zs : List V} {us ws : List D} (r1 : RepL K G vs us) (r2 : RepL K G zs ws) : RepL K G (kwP n m perm vs zs) (kwP n m perm us ws) := by
  unfold kwP
  rw [r1.length, r2.length]
  split
  · have r := r1.append r2
    induction perm with
    | nil => exact .nil
    | cons i perm ih =>
      rw [List.filterMap_cons, List.filterMap_cons]
      cases e : (vs ++ zs)[i]? with
      | none =>
        have h2 : (us ++ ws)[i]? = none := by
          rw [List.getElem?_eq_none_iff] at e ⊢
          rw [← r.length]
          exact e
        rw [h2]
        exact ih
      | some x =>
        obtain ⟨u, hu, ru⟩ := r.get e
        rw [hu]
        exact .cons ru ih
  · exact .nil
section
variable {Γ : Ctx} {ρ : Env} {te ta tb : TE} {tt : TT} {ts tu : TS} {Φ : D → Env → Prop} {Ψ : B → Env → Prop} {Θ : Bool → Env → Prop} {Δ : Fin}
theorem eb_callW {K : PySem.W.Frag} {C : Cn} {Fam : Rsc → Prop} {ts tk : TA} {E : XK} {n m : Nat} {perm : List Nat} (hK : K = Γ.K) (hF : Fam Rsc.no) (h : AW Γ ts ρ fun ds ρ1 => AW Γ tk ρ1 fun es ρ2 => C Γ.K 0 (kwP n m perm ds es) (fun b => Ψ b ρ2) NoX) : EB Γ (tCallK (SpD K Fam C) (kwP n m perm) E ts tk) ρ Ψ :=
  eb_callKP (gD := kwP n m perm) hK hF (fun r1 r2 => rep_kwP r1 r2) h
theorem ew_callW {K : PySem.W.Frag} {C : Cn} {Fam : Rsc → Prop} {ts tk : TA} {E : XK} {n m : Nat} {perm : List Nat} (hK : K = Γ.K) (hF : Fam Rsc.no) (h : AW Γ ts ρ fun ds ρ1 => AW Γ tk ρ1 fun es ρ2 => C Γ.K 0 (kwP n m perm ds es) (fun b => Φ (asD b) ρ2) NoX) : EW Γ (tCallK (SpD K Fam C) (kwP n m perm) E ts tk) ρ Φ :=
  ew_of_eb (eb_callW hK hF h)
theorem cbv_maxT {K : PySem.W.Frag} {ns : List Int} {z : Int} (hK : K = Γ.K) (h0 : z ∈ ns) (h1 : ∀ y ∈ ns, y ≤ z) : CbV Γ (rMaxT K) [.tup (ns.map D.int)] (.int z) := fun G H vs Q e r q => by
  subst hK
  cases r with
  | cons r1 r2 =>
    cases r2
    cases r1 with
    | tup hq hs =>
      have := hs.ints
      subst this
      refine ⟨_, ns, rfl, sq_up e hq, List.length_pos_of_mem h0, fun m hm hy => ?_⟩
      have : m = z := by
        have a := h1 m hm
        have b := hy z h0
        omega
      subst this
      exact q _ (.int _)
theorem cbv_minT {K : PySem.W.Frag} {ns : List Int} {z : Int} (hK : K = Γ.K) (h0 : z ∈ ns) (h1 : ∀ y ∈ ns, z ≤ y) : CbV Γ (rMinT K) [.tup (ns.map D.int)] (.int z) := fun G H vs Q e r q => by
  subst hK
  cases r with
  | cons r1 r2 =>
    cases r2
    cases r1 with
    | tup hq hs =>
      have := hs.ints
      subst this
      refine ⟨_, ns, rfl, sq_up e hq, List.length_pos_of_mem h0, fun m hm hy => ?_⟩
      have : m = z := by
        have a := h1 m hm
        have b := hy z h0
        omega
      subst this
      exact q _ (.int _)
theorem cbv_maxL {K : PySem.W.Frag} {ns : List Int} {z : Int} (hK : K = Γ.K) (h0 : z ∈ ns) (h1 : ∀ y ∈ ns, y ≤ z) : CbV Γ (rMax K) [.lst (ns.map D.int)] (.int z) := fun G H vs Q e r q => by
  subst hK
  cases r with
  | cons r1 r2 =>
    cases r2
    cases r1 with
    | lst hq hs =>
      have := hs.ints
      subst this
      refine ⟨_, ns, rfl, seq_of e hq, List.length_pos_of_mem h0, fun m hm hy => ?_⟩
      have : m = z := by
        have a := h1 m hm
        have b := hy z h0
        omega
      subst this
      exact q _ (.int _)
theorem cbv_minL {K : PySem.W.Frag} {ns : List Int} {z : Int} (hK : K = Γ.K) (h0 : z ∈ ns) (h1 : ∀ y ∈ ns, z ≤ y) : CbV Γ (rMin K) [.lst (ns.map D.int)] (.int z) := fun G H vs Q e r q => by
  subst hK
  cases r with
  | cons r1 r2 =>
    cases r2
    cases r1 with
    | lst hq hs =>
      have := hs.ints
      subst this
      refine ⟨_, ns, rfl, seq_of e hq, List.length_pos_of_mem h0, fun m hm hy => ?_⟩
      have : m = z := by
        have a := h1 m hm
        have b := hy z h0
        omega
      subst this
      exact q _ (.int _)
/-- there is a greatest one -/
theorem max_ex : ∀ {ns : List Int}, ns ≠ [] → ∃ z ∈ ns, ∀ y ∈ ns, y ≤ z
  | [], h => absurd rfl h
  | [x], _ => ⟨x, by simp, fun y hy => by rw [List.mem_singleton.mp hy]; exact Int.le_refl _⟩
  | x :: y :: ns, _ => by
    obtain ⟨z, hz, h⟩ := max_ex (ns := y :: ns) (by simp)
    by_cases c : z ≤ x
    · refine ⟨x, List.mem_cons_self, fun w hw => ?_⟩
      rcases List.mem_cons.mp hw with rfl | hw
      · exact Int.le_refl _
      · exact Int.le_trans (h w hw) c
    · refine ⟨z, List.mem_cons_of_mem _ hz, fun w hw => ?_⟩
      rcases List.mem_cons.mp hw with rfl | hw
      · omega
      · exact h w hw
end
end Dl
namespace Dl
open PySem L2
open Evl (Ex)
theorem opv_neD {Γ : Ctx} {K : PySem.W.Frag} {x y : D} {d e : PyData} (hK : K = Γ.K) (hx : Py x d) (hy : Py y e) (h1 : SeqAt.shaped d = true) (h2 : SeqAt.shaped e = true) : OpV Γ (rNeD K) x y (.bl (!PyData.eqv d e)) := fun G H vx vy Q ex rx ry q => by
  subst hK
  exact ⟨d, e, dp_of ex rx hx, dp_of ex ry hy, h1, h2, q _ (.bl _)⟩
theorem py_pair {a b : Int} : Py (.tup [.int a, .int b]) (.tuple [.int a, .int b]) := .tup (.cons (.int _) (.cons (.int _) .nil))
theorem shaped_pair {a b : Int} : SeqAt.shaped (.tuple [.int a, .int b]) = true := rfl
theorem eqv_pair {a b c d : Int} : PyData.eqv (.tuple [.int a, .int b]) (.tuple [.int c, .int d]) = (a == c && (b == d && true)) := rfl
end Dl
namespace Dl
open PySem L2
open Evl (Ex)
/-! ### comprehensions over zip -/
section
variable {Γ : Ctx} {ρ : Env} {te : TE} {tt : TT} {Ψ : B → Env → Prop} {ta tb : TE}
/-- a + b, both new lists -/
theorem eb_catE (h : EB Γ ta ρ fun b ρ1 => ∃ xs, b = .ow (.lst xs) ∧ ∀ c, EB (Γ.ext c) tb ρ1 fun b2 ρ2 => ∃ ys, b2 = .ow (.lst ys) ∧ xs.length + ys.length ≤ 100000 ∧ Ψ (.ow (.lst (xs ++ ys))) ρ2) : EB Γ (tOp rCat ta tb) ρ Ψ := fun σ G H Q k q =>
  h σ G H _ k fun b ρ1 v G1 H1 e1 k1 r1 ⟨xs, hb, h2⟩ => by
    subst hb
    obtain ⟨⟨p, o, ev, hp, ro, gp, fp, xp⟩, b2⟩ := r1
    subst ev
    have b2 := b2 _ rfl _ rfl
    cases ro with
    | @lst us _ ro =>
      refine h2 (p, .lst us) σ G1 H1 _ (k1.ext hp gp fp b2.1) fun b ρ2 w G2 H2 e2 k2 r2 ⟨ys, hb, hz, ps⟩ => ?_
      subst hb
      obtain ⟨⟨c, o2, rfl, f1, f2, _⟩, _⟩ := r2
      obtain ⟨at1, _, _⟩ := k2.cel (p, .lst us) List.mem_cons_self
      cases f2 with
      | @lst ws _ f2 =>
        exact ⟨p, c, us, ws, rfl, rfl, at1, f1, Evl.sz_of (by rw [ro.length, f2.length]; exact hz), fun m hm => q _ ρ2 _ _ _ (e1.trans e2) (k2.unext.newO hm) (br_new k2.unext hm ((ro.mono e2).append f2)) ps⟩
theorem eb_lcZT {K : PySem.W.Frag} {g : TG} {vs : List Nat} {ta : TA} (hK : K = Γ.K) (h : AW Γ ta ρ fun es ρ1 => ∃ xs ys, es = [.tup xs, .tup ys] ∧ xs.length = ys.length ∧ Comp Γ g vs tt te ((xs.zip ys).map fun p => .tup [p.1, p.2]) ρ1 Ψ) : EB Γ (tLc (RZ.iZipA K ta) g tt te vs) ρ Ψ := fun σ G H Q k q =>
  h σ G H _ k fun es ρ1 ws G1 H1 e1 k1 r1 ⟨xs, ys, he, hl, gw, hv, hz, J, j0, js, jd⟩ => by
    subst he
    subst hK
    cases r1 with
    | cons r1 r2 => cases r2 with
      | cons r2 r3 =>
        cases r3
        cases r1 with
        | @tup a us _ hq hs => cases r2 with
          | @tup b wz _ hq' hs' =>
            have lu := hs.length
            have lw := hs'.length
            refine ⟨a, b, us, wz, rfl, .inr ⟨sq_up k1.gh hq, sq_up k1.gh hq', fun p hp => ?_⟩⟩
            refine ⟨fun i m H => m = xs.length - i ∧ i ≤ xs.length ∧ ∃ G acc ds, Acc Γ G1 G H σ ρ1 p acc ∧ RepL Γ.K G acc ds ∧ J i ds ∧ acc.length ≤ i, ⟨xs.length, rfl, Nat.zero_le _, G1, [], [], Acc.new k1 hp, .nil, j0, Nat.le_refl _⟩, ?_⟩
            rintro i m H2 ⟨rfl, hi, G2, acc, ds, A, ra, j, la⟩
            have qx := sq_up (A.e.trans A.ok.gh) hq
            have qy := sq_up (A.e.trans A.ok.gh) hq'
            have zl : ((xs.zip ys).map fun p => D.tup [p.1, p.2]).length = xs.length := by rw [List.length_map, List.length_zip]; omega
            by_cases hlt : i < xs.length
            · have hu : us[i]? = some us[i] := List.getElem?_eq_getElem (by omega)
              have hw : wz[i]? = some wz[i] := List.getElem?_eq_getElem (by omega)
              refine .inr ⟨⟨us, wz, _, _, qx, qy, hu, hw⟩, fun H' => ∃ G acc ds, Acc Γ G1 G H' σ ρ1 p acc ∧ RepL Γ.K G acc ds ∧ J (i + 1) ds ∧ acc.length ≤ i + 1, fun H' p' => ⟨xs.length - (i + 1), by omega, rfl, hlt, p'⟩, fun v H' y => ?_⟩
              obtain ⟨T, x', y', rfl, hT, rfl, f1, f2⟩ := y
              obtain ⟨x, hx, rx⟩ := hs.get (f1 us qx)
              obtain ⟨y, hy, ry⟩ := hs'.get (f2 wz qy)
              obtain ⟨k3, e3⟩ := A.ok.new (o := .tup [x', y']) hT
              have pT : p ≠ T := fun e => by
                have := A.h
                rw [e, hT] at this
                cases this
              have A3 : Acc Γ G1 (upd G2 T (.tup [x', y'])) (upd H2 T (.tup [x', y'])) σ ρ1 p acc := ⟨k3, A.e.trans e3, by rw [upd_ne pT]; exact A.h, by rw [upd_ne pT]; exact A.g, A.f, A.n, A.x, A.z⟩
              have hxy : ((xs.zip ys).map fun p => D.tup [p.1, p.2])[i]? = some (.tup [x, y]) := by
                rw [List.getElem?_map, (List.getElem?_zip_eq_some (z := (x, y))).mpr ⟨hx, hy⟩]
                rfl
              refine Comp1.run (fun c => js i _ ds c hxy j) gw hv A3 (ra.mono e3) (.tup (SqT.of upd_same) (.cons (rx.mono (A.e.trans e3)) (.cons (ry.mono (A.e.trans e3)) .nil))) (by omega) fun H' ⟨G', acc', ds', A', r', j', l'⟩ => ⟨G', acc', ds', A', r', j', by omega⟩
            · have e : i = xs.length := by omega
              subst e
              refine .inl ⟨⟨us, wz, qx, qy, .inl (by omega)⟩, q _ ρ1 _ G2 H2 (e1.trans A.e) A.ok (acc_br A ra) (jd ds (by rw [zl]; exact j))⟩
theorem eb_lcZL {K : PySem.W.Frag} {g : TG} {vs : List Nat} {ta : TA} (hK : K = Γ.K) (h : AW Γ ta ρ fun es ρ1 => ∃ xs ys, es = [.lst xs, .lst ys] ∧ xs.length = ys.length ∧ Comp Γ g vs tt te ((xs.zip ys).map fun p => .tup [p.1, p.2]) ρ1 Ψ) : EB Γ (tLc (RZ.iZipA K ta) g tt te vs) ρ Ψ := fun σ G H Q k q =>
  h σ G H _ k fun es ρ1 ws G1 H1 e1 k1 r1 ⟨xs, ys, he, hl, gw, hv, hz, J, j0, js, jd⟩ => by
    subst he
    subst hK
    cases r1 with
    | cons r1 r2 => cases r2 with
      | cons r2 r3 =>
        cases r3
        cases r1 with
        | @lst a us _ hq hs => cases r2 with
          | @lst b wz _ hq' hs' =>
            have lu := hs.length
            have lw := hs'.length
            refine ⟨a, b, us, wz, rfl, .inl ⟨seq_of k1.gh hq, seq_of k1.gh hq', fun p hp => ?_⟩⟩
            refine ⟨fun i m H => m = xs.length - i ∧ i ≤ xs.length ∧ ∃ G acc ds, Acc Γ G1 G H σ ρ1 p acc ∧ RepL Γ.K G acc ds ∧ J i ds ∧ acc.length ≤ i, ⟨xs.length, rfl, Nat.zero_le _, G1, [], [], Acc.new k1 hp, .nil, j0, Nat.le_refl _⟩, ?_⟩
            rintro i m H2 ⟨rfl, hi, G2, acc, ds, A, ra, j, la⟩
            have qx := seq_of (A.e.trans A.ok.gh) hq
            have qy := seq_of (A.e.trans A.ok.gh) hq'
            have zl : ((xs.zip ys).map fun p => D.tup [p.1, p.2]).length = xs.length := by rw [List.length_map, List.length_zip]; omega
            by_cases hlt : i < xs.length
            · have hu : us[i]? = some us[i] := List.getElem?_eq_getElem (by omega)
              have hw : wz[i]? = some wz[i] := List.getElem?_eq_getElem (by omega)
              refine .inr ⟨⟨us, wz, _, _, qx, qy, hu, hw⟩, fun H' => ∃ G acc ds, Acc Γ G1 G H' σ ρ1 p acc ∧ RepL Γ.K G acc ds ∧ J (i + 1) ds ∧ acc.length ≤ i + 1, fun H' p' => ⟨xs.length - (i + 1), by omega, rfl, hlt, p'⟩, fun v H' y => ?_⟩
              obtain ⟨T, x', y', rfl, hT, rfl, f1, f2⟩ := y
              obtain ⟨x, hx, rx⟩ := hs.get (f1 us qx)
              obtain ⟨y, hy, ry⟩ := hs'.get (f2 wz qy)
              obtain ⟨k3, e3⟩ := A.ok.new (o := .tup [x', y']) hT
              have pT : p ≠ T := fun e => by
                have := A.h
                rw [e, hT] at this
                cases this
              have A3 : Acc Γ G1 (upd G2 T (.tup [x', y'])) (upd H2 T (.tup [x', y'])) σ ρ1 p acc := ⟨k3, A.e.trans e3, by rw [upd_ne pT]; exact A.h, by rw [upd_ne pT]; exact A.g, A.f, A.n, A.x, A.z⟩
              have hxy : ((xs.zip ys).map fun p => D.tup [p.1, p.2])[i]? = some (.tup [x, y]) := by
                rw [List.getElem?_map, (List.getElem?_zip_eq_some (z := (x, y))).mpr ⟨hx, hy⟩]
                rfl
              refine Comp1.run (fun c => js i _ ds c hxy j) gw hv A3 (ra.mono e3) (.tup (SqT.of upd_same) (.cons (rx.mono (A.e.trans e3)) (.cons (ry.mono (A.e.trans e3)) .nil))) (by omega) fun H' ⟨G', acc', ds', A', r', j', l'⟩ => ⟨G', acc', ds', A', r', j', by omega⟩
            · have e : i = xs.length := by omega
              subst e
              refine .inl ⟨⟨us, wz, qx, qy, .inl (by omega)⟩, q _ ρ1 _ G2 H2 (e1.trans A.e) A.ok (acc_br A ra) (jd ds (by rw [zl]; exact j))⟩
/-- the numbers from lo on -/
def rngD2 (lo : Int) (n : Nat) : List D := (List.range n).map fun (i : Nat) => D.int (lo + (i : Int))
theorem rngD2_len {lo : Int} {n : Nat} : (rngD2 lo n).length = n := by
  unfold rngD2
  rw [List.length_map, List.length_range]
theorem rngD2_get {lo : Int} {n i : Nat} (h : i < n) : (rngD2 lo n)[i]? = some (.int (lo + (i : Int))) := by
  unfold rngD2
  rw [List.getElem?_map, List.getElem?_range h]
  rfl
theorem eb_lcR2 {g : TG} {vs : List Nat} {ta : TA} (h : AW Γ ta ρ fun ds ρ1 => ∃ lo n : Int, ds = [.int lo, .int n] ∧ (-1000 ≤ lo ∧ lo ≤ 100000 ∧ -1000 ≤ n ∧ n ≤ 100000) ∧ Comp Γ g vs tt te (rngD2 lo (n - lo).toNat) ρ1 Ψ) : EB Γ (tLc (iRng2 ta) g tt te vs) ρ Ψ := fun σ G H Q k q =>
  h σ G H _ k fun d ρ1 v G1 H1 e1 k1 r1 ⟨lo, n, e, bn, gw, hv, hl, J, j0, js, jd⟩ => by
    subst e
    rw [rngD2_len] at hl jd
    cases r1 with
    | cons r r' => cases r' with
      | cons r2 r' => cases r' with
        | nil =>
          cases r
          cases r2
          exact ⟨lo, n, rfl, by omega, fun p hp => lc_range (lo := lo) (n := (n - lo).toNat) (fun i H => ∃ G acc ds, Acc Γ G1 G H σ ρ1 p acc ∧ RepL Γ.K G acc ds ∧ J i ds ∧ acc.length ≤ i) ⟨G1, [], [], Acc.new k1 hp, .nil, j0, Nat.le_refl _⟩
            (fun i H hi ⟨G2, acc, es, A, ra, j, la⟩ => Comp1.run (fun c => js i _ es c (rngD2_get hi) j) gw hv A ra (.int _) (by omega) fun H' ⟨G', acc', ds', A', r', j', l'⟩ => ⟨G', acc', ds', A', r', j', by omega⟩)
            (fun H ⟨G2, acc, es, A, ra, j, la⟩ => q _ ρ1 _ G2 H (e1.trans A.e) A.ok (acc_br A ra) (jd es j))⟩
/-- [te for i, j in zip(..)], each turn reckoned alone -/
theorem eb_mapZT {K K' : PySem.W.Frag} {ta : TA} {i j n : Nat} {vs : List Nat} (hv : vs = [i, j]) (hK : K = Γ.K) (hK' : K' = Γ.K) (hn : n = 2) (hij : i ≠ j) (h : AW Γ ta ρ fun es ρ1 => ∃ xs ys, es = [.tup xs, .tup ys] ∧ xs.length = ys.length ∧ Maps2 Γ i j te ((xs.zip ys).map fun p => .tup [p.1, p.2]) ρ1 Ψ) : EB Γ (tLc (RZ.iZipA K ta) (gTup K' n (gCons (gName i) (gCons (gName j) gNil))) tYes te vs) ρ Ψ := by
  subst hv
  exact eb_lcZT hK fun σ G H Q k q => h σ G H Q k fun d ρ1 v G1 H1 e1 k1 r1 ⟨xs, ys, hd, hl, m⟩ => q d ρ1 v G1 H1 e1 k1 r1 ⟨xs, ys, hd, hl, m.comp hK' hn hij⟩
end
end Dl

namespace Dl
open PySem PySem.Spec PyProof.Rows L2
/-! ### exceptions whose context is known to be None: they may be looked at in a suite that calls -/
/-- an own exception with its own __init__, made where none is handled -/
theorem made_own {X : Cx} {G : CXT} {x : Str} {C fI : Addr} {k : Nat} {fd : FuncData} {ps : List Str} {sp : Sp} {e : Expr} {es : List Expr} {ta : TA} {p pos : Pos}
    (T : OexC X.K C) (iC : PySem.W.findIn X.K (.ref C) "__init__" = some (some (.ref fI))) (tI : PySem.W.typeIn X.K (.ref fI) = some (.type "function")) (D : FnOk X.prog X.w X.K X.mg X.base G k fI fd ps sp)
    (room : Room (k + 1) X.A) (b : Binds X.K fd ps []) (out : Passes G X fun _ _ _ => False) (g : Gl X x) (m : X.mg x = some (.ref C)) (args : PA X (e :: es) ta)
    (nd : (x == ("__debug__" : Str)) = false := by decide) (st : starEach (e :: es) X.env = (false, eval e X.env) :: starEach es X.env := by rfl) (pl : (backTo pos (starEach es X.env)).any (·.1) = false := by rfl) :
    L2N.PMk X (.Call (.Name x p) (e :: es) [] pos) (tMkO C sp [] ta) := fun pins s σ H Q I w => by
  obtain ⟨_, _, _, _, bm, _, _, _, _, _, _, _, _, _, _, atC, inB⟩ := T.cls
  apply wpAny_Call_Name_kw
  apply ld_glob I g m _ nd
  apply PySem.W.callWith_K (h₀ := X.base) I.ok.mod.kin T.kC _ st pl
  apply thn (args.run pos pins s σ H _ I w)
  rintro us ⟨h1, g1, d1, t1, o1⟩ ⟨vs, H1, I1, rv, short, made⟩
  refine ⟨I1.kIn, ?_⟩
  -- the new object's place, the heap behind its making
  obtain ⟨a, ea⟩ : ∃ a, a = h1.objs.size + 1 := ⟨_, rfl⟩
  obtain ⟨h2, eh⟩ : ∃ h2, h2 = (h1.push (PySem.W.kdv_tup us)).push (PySem.HandSPX.excO C h1.objs.size) := ⟨_, rfl⟩
  have old : ∀ c o, h1.get? c = some o → h2.get? c = some o := fun c o q => by
    rw [eh]
    exact Heap.get?_push_of_some _ (Heap.get?_push_of_some _ q)
  have le : h1.objs.size ≤ a := by omega
  have at_ : h2.get? a = some (PySem.HandSPX.excO C h1.objs.size) := by
    rw [eh, ea]
    heap_get
  have free : H1 a = none := I1.hok.fresh le
  have run := made a free
  simp only [List.append_nil] at run
  have J : Inv X pins σ (upd H1 a (exo a C none)) ⟨h2, g1, d1, t1, o1⟩ := I1.laid (t' := t1) (o := exo a C none) old le (exo_ok at_)
  have rvs : Vals (V.ref a :: vs) (Value.ref a :: us) := Paired.cons rfl rv
  have same : (Value.ref a :: us).length = ps.length := rvs.length.symm.trans (D.len _ _ _ _ run)
  have bound := b ⟨h2, g1, d1, t1, o1⟩ (Value.ref a :: us) J.kIn (by rw [List.append_nil]; exact same)
  simp only [List.append_nil] at bound
  have few : us.length ≤ sizeLine := by
    rw [← Paired.length rv, sizeLine_eq]
    omega
  have body := D.run (X.A.under (.builtin "type.__call__" ⟨.ref C :: us, []⟩)) X.stack _ _ ⟨Value.ref a :: us, []⟩ (Value.ref a :: us) _ _ (fun _ _ _ => False) (room.make C us []) (J.env0.make C us []) bound rvs run
  subst ea eh
  refine wpAny_call (PySem.HandSPX.call_own F.excBase_ValueError (fun Y => PySem.HandSPX.refsVE_contains Y bm inB) (I1.kIn _ _ atC) (PySem.W.looks_findIn I1.kIn iC) (fun self => PySem.W.bind_fn I1.kIn self tI) few (codeAny_mono body ?_))
  rintro (er | fl) ⟨h3, g3, d3, t3, o3⟩ z
  · exact out pins σ _ _ er _ J z
  · match fl, z with
    | .ret u, z =>
      obtain ⟨_, H3, os3, bare3, un3, hok3, ru, rfl, d, fs, e1, e2, fr, wish⟩ := z
      obtain ⟨t0, h0, I0, keep, gone, here, hole⟩ := mk_end0 (d2 := d3) (t2 := t3) I1 le old un3 hok3 os3 bare3 e1 e2 fr
      exact ⟨ru, _, _, _, ⟨h0, g3, d3, t3, o3⟩, _, .ref C, some d, rfl, I0, keep, gone, here, ⟨rfl, rfl, fun ws q => by cases q; rfl⟩, rfl, rfl, hole, rfl, bare3, raises_own T.exC T.tyC, wish⟩
section
variable {P : Program} {w : World} {K : PySem.W.Frag} {mg : Str → Option Value} {base : Heap} {x qual : Str} {st : Stmt} {f : Addr} {fd : FuncData} {N ps : List Str} {k : Nat} {sp : Sp}
/-- a def that raises such exceptions -/
theorem okN (F : Fun K x qual st f fd) (S : FnScope N ps (defScope st)) (len : ∀ vs H Q E, sp vs H Q E → vs.length = ps.length)
    (body : ∀ (cd : Value) (A : Around) (outer : List PySem.Env) (s : Shared) (H : Hp) (vs : List V) (Q : VK) (E : XK), Room k (A.deeper (envOfC qual (defScope st) s.heap.objs.size f cd)) → sp vs H Q E → ∃ t, PSs (cxOf (L2N.CX P w) P w K mg base N qual (defScope st) f cd A outer s H E) (defBody st) t ∧ t ⟨fun _ H' => Q .non H', Q, fun _ _ => False, fun _ _ => False⟩ (start N vs) H) :
    FnOk P w K mg base (L2N.CX P w) (k + 1) f fd ps sp := by
  obtain ⟨_, _, _, _, _, _, cd, _, _, e, at_, cod⟩ := F.ex
  subst e
  exact fn_of at_ cod S len (body cd)
/-- a def that raises nothing, called while an exception is handled -/
theorem okH (F : Fun K x qual st f fd) (S : FnScope N ps (defScope st)) (len : ∀ vs H Q E, sp vs H Q E → vs.length = ps.length)
    (body : ∀ (cd : Value) (A : Around) (outer : List PySem.Env) (s : Shared) (H : Hp) (vs : List V) (Q : VK) (E : XK) (p : Addr × Obj), L2H.HotC (L2H.cxH CX0 P w K mg base N qual (defScope st) f cd A outer s H E p).nox → L2H.RoomH k (A.deeper (envOfC qual (defScope st) s.heap.objs.size f cd)) → sp vs H Q E →
      ∃ t, PSs (L2H.cxH CX0 P w K mg base N qual (defScope st) f cd A outer s H E p).nox (defBody st) t ∧ t ⟨fun _ H' => Q .non H', Q, fun _ _ => False, fun _ _ => False⟩ (start N vs) H) :
    L2H.FnH P w K mg base CX0 (k + 1) f fd ps sp := by
  obtain ⟨_, _, _, _, _, _, cd, _, _, e, at_, cod⟩ := F.ex
  subst e
  refine L2H.fn_ofH at_ cod S len fun A outer s H vs Q E p hot room wish => ?_
  obtain ⟨t, h, q⟩ := body cd A outer s H vs Q E p ⟨p, hot, List.mem_singleton.mpr rfl⟩ room wish
  exact ⟨t, h.nox, q⟩
end
theorem passLN {X : Cx} : Passes (L2N.CX X.prog X.w) X E0 := fun _ _ _ _ _ _ _ h => by
  obtain ⟨_, _, _, _, _, _, _, _, _, _, _, _, z⟩ := h
  exact z.elim
theorem takes0N {X : Cx} : L2N.Takes X (fun _ _ _ _ => False) := fun _ _ h => by
  obtain ⟨_, _, _, _, _, _, _, _, _, _, _, _, _, _, _, _, z⟩ := h
  exact z.elim
theorem pass0A {X : Cx} (σ : L2.St) : PassesAt CX0 X σ E0 := fun _ _ _ _ _ _ h => h.elim
theorem hot_suite {X : Cx} {a : Addr} {oe : Obj} {cls : Value} {d : Option Addr} {pn : List (Addr × Obj)} (z : L2N.Zn cls d oe) (v : ∃ vs, oe.data = .fields vs) : L2H.HotC (X.suite a ((a, oe) :: pn)) := by
  obtain ⟨vs, e⟩ := v
  exact ⟨(a, oe), ⟨rfl, vs, e, z.2.2 vs e⟩, List.mem_cons_self⟩
section
variable {Γ : Ctx} {ρ : Env} {Φ : D → Env → Prop}
theorem ew_callH {K : PySem.W.Frag} {C : Cn} {Fam : Rsc → Prop} {ts : TA} {E : XK} (hK : K = Γ.K) (hF : Fam Rsc.no) (h : AW Γ ts ρ fun ds ρ1 => C Γ.K 0 ds (fun b => Φ (asD b) ρ1) NoX) : EW Γ (tCallS (SpD K Fam C) (fun _ => E) ts) ρ Φ := by
  have e : tCallS (SpD K Fam C) (fun _ => E) ts = tCall (SpD K Fam C) [] E ts := by
    funext σ H Q
    show ts σ H (fun vs H1 => SpD K Fam C vs H1 Q E) = ts σ H (fun vs H1 => SpD K Fam C (vs ++ []) H1 Q E)
    simp only [List.append_nil]
  rw [e]
  exact ew_callP hK hF h
end
end Dl

/-! Sh: plain arithmetic of shares. -/
namespace Sh
def gi (a b : Int) : Int := (Int.gcd a b : Int)
theorem gi_nn (a b : Int) : 0 ≤ gi a b := Int.natCast_nonneg _
theorem gi_pos {a b : Int} (h : b ≠ 0) : 0 < gi a b := by
  unfold gi
  have : 0 < Int.gcd a b := Int.gcd_pos_iff.mpr (.inr h)
  omega
theorem gi_l (a b : Int) : gi a b ∣ a := Int.gcd_dvd_left a b
theorem gi_r (a b : Int) : gi a b ∣ b := Int.gcd_dvd_right a b
theorem gi_abs (a b : Int) : gi (a.natAbs : Int) (b.natAbs : Int) = gi a b := by
  unfold gi Int.gcd
  simp
theorem gi_mod {x y : Int} (hx : 0 ≤ x) (hy : 0 < y) : gi y (x % y) = gi x y := by
  obtain ⟨m, rfl⟩ := Int.eq_ofNat_of_zero_le hx
  obtain ⟨n, rfl⟩ := Int.eq_ofNat_of_zero_le (Int.le_of_lt hy)
  unfold gi Int.gcd
  have e : ((m : Int) % (n : Int)).natAbs = m % n := by
    rw [← Int.natCast_emod]
    exact Int.natAbs_natCast _
  rw [e, Int.natAbs_natCast, Int.natAbs_natCast]
  have h := Nat.gcd_rec n m
  rw [Nat.gcd_comm m n, h, Nat.gcd_comm]
theorem gi_zero {x : Int} (hx : 0 ≤ x) : gi x 0 = x := by
  unfold gi
  rw [Int.gcd_zero_right]
  omega
theorem gi_le {a b : Int} (h : b ≠ 0) : gi a b ≤ b.natAbs := by
  have h1 := Int.natAbs_dvd_natAbs.mpr (gi_r a b)
  have h2 := Nat.le_of_dvd (by omega) h1
  have h3 := gi_nn a b
  omega
/-- in lowest terms -/
def red (a b : Int) : Int × Int := if b < 0 then ((-a) / gi a b, (-b) / gi a b) else (a / gi a b, b / gi a b)
structure IsSh (p : Int × Int) : Prop where
  pos : 0 < p.2
  co : gi p.1 p.2 = 1
theorem gi_neg (a b : Int) : gi (-a) (-b) = gi a b := by
  unfold gi
  rw [Int.neg_gcd, Int.gcd_neg]
theorem gi_div {a b : Int} (h : b ≠ 0) : gi (a / gi a b) (b / gi a b) = 1 := by
  have hp := gi_pos (a := a) h
  have e := Int.gcd_ediv (gi_l a b) (gi_r a b)
  unfold gi at e ⊢
  rw [e]
  have : Int.gcd a b / ((Int.gcd a b : Nat) : Int).natAbs = 1 := by
    rw [Int.natAbs_natCast]
    exact Nat.div_self (by unfold gi at hp; omega)
  rw [this]
  rfl
theorem red_pos {a b : Int} (h : 0 < b) : red a b = (a / gi a b, b / gi a b) := by
  unfold red
  rw [if_neg (by omega)]
theorem red_neg {a b : Int} (h : b < 0) : red a b = ((-a) / gi (-a) (-b), (-b) / gi (-a) (-b)) := by
  unfold red
  rw [if_pos h, gi_neg]
theorem div_pos {a b : Int} (h : 0 < b) : 0 < b / gi a b := by
  have h1 := Int.ediv_mul_cancel (gi_r a b)
  have h2 := gi_pos (a := a) (b := b) (by omega)
  by_cases hc : 0 < b / gi a b
  · exact hc
  · exfalso
    have : b / gi a b * gi a b ≤ 0 := Int.mul_nonpos_of_nonpos_of_nonneg (by omega) (by omega)
    omega
theorem red_sh {a b : Int} (h : b ≠ 0) : IsSh (red a b) := by
  by_cases hb : b < 0
  · rw [red_neg hb]
    exact ⟨div_pos (by omega), gi_div (by omega)⟩
  · rw [red_pos (by omega)]
    exact ⟨div_pos (by omega), gi_div h⟩
theorem red_val {a b : Int} (h : b ≠ 0) : (red a b).1 * b = a * (red a b).2 := by
  have key : ∀ {a b : Int}, 0 < b → (a / gi a b) * b = a * (b / gi a b) := fun {a b} hb => by
    have h1 := Int.ediv_mul_cancel (gi_l a b)
    have h2 := Int.ediv_mul_cancel (gi_r a b)
    have h3 : (a / gi a b) * (b / gi a b * gi a b) = (a / gi a b * gi a b) * (b / gi a b) := by
      rw [Int.mul_assoc, Int.mul_comm (b / gi a b)]
    rw [h1, h2] at h3
    exact h3
  by_cases hb : b < 0
  · rw [red_neg hb]
    have e := key (a := -a) (b := -b) (by omega)
    show (-a) / gi (-a) (-b) * b = a * ((-b) / gi (-a) (-b))
    rw [Int.mul_neg, Int.neg_mul] at e
    omega
  · rw [red_pos (by omega)]
    exact key (by omega)
theorem dvd_co {k m n : Int} (h : gi k m = 1) (d : k ∣ m * n) : k ∣ n := by
  rw [← Int.natAbs_dvd_natAbs] at d ⊢
  rw [Int.natAbs_mul] at d
  refine Nat.Coprime.dvd_of_dvd_mul_left ?_ d
  unfold gi Int.gcd at h
  show Nat.gcd _ _ = 1
  omega
theorem gi_comm (a b : Int) : gi a b = gi b a := by
  unfold gi
  rw [Int.gcd_comm]
theorem sh_unique {p q : Int × Int} (hp : IsSh p) (hq : IsSh q) (e : p.1 * q.2 = q.1 * p.2) : p = q := by
  obtain ⟨a, b⟩ := p
  obtain ⟨c, d⟩ := q
  obtain ⟨p1, p2⟩ := hp
  obtain ⟨q1, q2⟩ := hq
  dsimp only at *
  have h1 : b ∣ d := dvd_co (m := a) (by rw [gi_comm]; exact p2) ⟨c, by rw [e, Int.mul_comm]⟩
  have h2 : d ∣ b := dvd_co (m := c) (by rw [gi_comm]; exact q2) ⟨a, by rw [← e, Int.mul_comm]⟩
  have e1 : b = d := Int.dvd_antisymm (by omega) (by omega) h1 h2
  subst e1
  have e2 : a = c := Int.eq_of_mul_eq_mul_right (by omega) e
  rw [e2]
theorem red_is {p : Int × Int} {a b : Int} (hp : IsSh p) (h : b ≠ 0) (e : a * p.2 = p.1 * b) : red a b = p := by
  refine sh_unique (red_sh h) hp ?_
  have v := red_val (a := a) h
  have : (red a b).1 * p.2 * b = p.1 * (red a b).2 * b := by
    rw [Int.mul_right_comm, v, Int.mul_right_comm, e, Int.mul_right_comm]
  exact Int.eq_of_mul_eq_mul_right h this
theorem red_self {p : Int × Int} (hp : IsSh p) : red p.1 p.2 = p := red_is hp (by have := hp.pos; omega) rfl
theorem red_zero {b : Int} (h : b ≠ 0) : red 0 b = (0, 1) := red_is ⟨by decide, by decide⟩ h (by simp)
/-- the law's own way -/
theorem law_red {a b : Int} (h : b ≠ 0) : (a.fdiv (if b < 0 then 0 - gi a b else gi a b), b.fdiv (if b < 0 then 0 - gi a b else gi a b)) = red a b := by
  by_cases hb : b < 0
  · rw [if_pos hb]
    have d1 : (0 - gi a b) ∣ a := by
      rw [Int.zero_sub, Int.neg_dvd]
      exact gi_l a b
    have d2 : (0 - gi a b) ∣ b := by
      rw [Int.zero_sub, Int.neg_dvd]
      exact gi_r a b
    rw [Int.fdiv_eq_ediv_of_dvd d1, Int.fdiv_eq_ediv_of_dvd d2, Int.zero_sub, Int.ediv_neg, Int.ediv_neg]
    unfold red
    rw [if_pos hb, Int.neg_ediv_of_dvd (gi_l a b), Int.neg_ediv_of_dvd (gi_r a b)]
  · rw [if_neg hb, Int.fdiv_eq_ediv_of_dvd (gi_l a b), Int.fdiv_eq_ediv_of_dvd (gi_r a b)]
    unfold red
    rw [if_neg hb]
/-! ### sums of many -/
def stepT (s p : Int × Int) : Int × Int := (s.1 * (p.2 / gi s.2 p.2) + p.1 * (s.2 / gi s.2 p.2), s.2 / gi s.2 p.2 * p.2)
def stepD (s p : Int × Int) : Int × Int := red (s.1 * p.2 + p.1 * s.2) (s.2 * p.2)
structure Rel (t d : Int × Int) : Prop where
  pos : 0 < t.2
  sh : IsSh d
  eq : t.1 * d.2 = d.1 * t.2
theorem rel_step {t d p : Int × Int} (r : Rel t d) (hp : 0 < p.2) : Rel (stepT t p) (stepD d p) := by
  obtain ⟨t1, t2⟩ := t
  obtain ⟨d1, d2⟩ := d
  obtain ⟨p1, p2⟩ := p
  obtain ⟨r1, ⟨r2, r3⟩, r4⟩ := r
  dsimp only at *
  have hM : 0 < d2 * p2 := Int.mul_pos r2 hp
  have hg : 0 < gi t2 p2 := gi_pos (by omega)
  have ha : 0 < t2 / gi t2 p2 := by
    rw [gi_comm]
    exact div_pos r1
  have g1 := Int.ediv_mul_cancel (gi_l t2 p2)
  have g2 := Int.ediv_mul_cancel (gi_r t2 p2)
  have v := red_val (a := d1 * p2 + p1 * d2) (b := d2 * p2) (by omega)
  refine ⟨Int.mul_pos ha hp, red_sh (show d2 * p2 ≠ 0 by omega), ?_⟩
  show (t1 * (p2 / gi t2 p2) + p1 * (t2 / gi t2 p2)) * (stepD (d1, d2) (p1, p2)).2 = (stepD (d1, d2) (p1, p2)).1 * (t2 / gi t2 p2 * p2)
  have e1 : stepD (d1, d2) (p1, p2) = red (d1 * p2 + p1 * d2) (d2 * p2) := rfl
  rw [e1]
  generalize (red (d1 * p2 + p1 * d2) (d2 * p2)).1 = u at *
  generalize (red (d1 * p2 + p1 * d2) (d2 * p2)).2 = z at *
  generalize gi t2 p2 = g at *
  generalize t2 / g = x at *
  generalize p2 / g = y at *
  have hz : (g * (d2 * p2)) ≠ 0 := by
    have := Int.mul_pos hg hM
    omega
  refine Int.eq_of_mul_eq_mul_right hz ?_
  subst g1 g2
  grind
theorem rel_start : Rel (0, 1) (0, 1) := ⟨by decide, ⟨by decide, by decide⟩, by decide⟩
theorem rel_fold : ∀ (ps : List (Int × Int)) {t d : Int × Int}, Rel t d → (∀ p ∈ ps, 0 < p.2) → Rel (ps.foldl stepT t) (ps.foldl stepD d)
  | [], _, _, r, _ => r
  | p :: ps, _, _, r, h => rel_fold ps (rel_step r (h p List.mem_cons_self)) fun q hq => h q (List.mem_cons_of_mem _ hq)
theorem total_is {ps : List (Int × Int)} (h : ∀ p ∈ ps, 0 < p.2) : red (ps.foldl stepT (0, 1)).1 (ps.foldl stepT (0, 1)).2 = ps.foldl stepD (0, 1) := by
  have r := rel_fold ps rel_start h
  exact red_is r.sh (by have := r.pos; omega) r.eq
/-! sizes -/
def Sm (n : Nat) (p : Int × Int) : Prop := p.1.natAbs < 2 ^ n ∧ p.2.natAbs < 2 ^ n
theorem ediv_abs {a g : Int} (h : 0 < g) (d : g ∣ a) : (a / g).natAbs ≤ a.natAbs := by
  obtain ⟨k, rfl⟩ := d
  rw [Int.mul_ediv_cancel_left k (by omega), Int.natAbs_mul]
  exact Nat.le_mul_of_pos_left _ (by omega)
theorem mul_sm {a b : Int} {m n : Nat} (ha : a.natAbs < 2 ^ m) (hb : b.natAbs < 2 ^ n) : (a * b).natAbs < 2 ^ (m + n) := by
  rw [Int.natAbs_mul, Nat.pow_add]
  exact Nat.mul_lt_mul'' ha hb
theorem add_sm {a b : Int} {m : Nat} (ha : a.natAbs < 2 ^ m) (hb : b.natAbs < 2 ^ m) : (a + b).natAbs < 2 ^ (m + 1) := by
  rw [Nat.pow_succ]
  omega
theorem sm_mono {a : Int} {m n : Nat} (h : a.natAbs < 2 ^ m) (l : m ≤ n) : a.natAbs < 2 ^ n := Nat.lt_of_lt_of_le h (Nat.pow_le_pow_right (by decide) l)
theorem red_sm {a b : Int} {n : Nat} (h : b ≠ 0) (ha : a.natAbs < 2 ^ n) (hb : b.natAbs < 2 ^ n) : Sm n (red a b) := by
  have hg := gi_pos (a := a) h
  unfold red
  split
  · exact ⟨Nat.lt_of_le_of_lt (ediv_abs hg ((Int.dvd_neg).mpr (gi_l a b))) (by omega), Nat.lt_of_le_of_lt (ediv_abs hg ((Int.dvd_neg).mpr (gi_r a b))) (by omega)⟩
  · exact ⟨Nat.lt_of_le_of_lt (ediv_abs hg (gi_l a b)) ha, Nat.lt_of_le_of_lt (ediv_abs hg (gi_r a b)) hb⟩
theorem stepT_sm {s p : Int × Int} {m n : Nat} (hs : Sm m s) (hp : Sm n p) (hp2 : 0 < p.2) : Sm (m + n + 1) (stepT s p) := by
  have hg := gi_pos (a := s.2) (b := p.2) (by omega)
  have h1 : (p.2 / gi s.2 p.2).natAbs < 2 ^ n := Nat.lt_of_le_of_lt (ediv_abs hg (gi_r _ _)) hp.2
  have h2 : (s.2 / gi s.2 p.2).natAbs < 2 ^ m := Nat.lt_of_le_of_lt (ediv_abs hg (gi_l _ _)) hs.2
  exact ⟨add_sm (mul_sm hs.1 h1) (by rw [Nat.add_comm]; exact mul_sm hp.1 h2), sm_mono (mul_sm h2 hp.2) (by omega)⟩
theorem stepD_sm {s p : Int × Int} {m n : Nat} (hs : Sm m s) (hp : Sm n p) (hs2 : 0 < s.2) (hp2 : 0 < p.2) : Sm (m + n + 1) (stepD s p) := by
  have := Int.mul_pos hs2 hp2
  exact red_sm (by omega) (add_sm (mul_sm hs.1 hp.2) (by rw [Nat.add_comm]; exact mul_sm hp.1 hs.2)) (sm_mono (mul_sm hs.2 hp.2) (by omega))
end Sh

/-! Bx: the box that some laws draw from: [great, small, turn], two lists of its own and a number -/
namespace Dl
open PySem L2
open Evl (Ex)
def boxR (b g s : Addr) : Rsc := ⟨b, fun a => a = b ∨ a = g ∨ a = s, fun H => ∃ (gs small : List Int) (turn : Int), H b = some (.lst [.ref g, .ref s, .int turn]) ∧ H g = some (.lst (gs.map V.int)) ∧ H s = some (.lst (small.map V.int)) ∧ (∀ x ∈ gs, 0 ≤ x) ∧ (∀ x ∈ small, 0 ≤ x ∧ x < 2147483629) ∧ gs.length ≤ 64 ∧ 0 < small.length ∧ small.length ≤ 64 ∧ 0 ≤ turn,
  fun H H' ⟨gs, small, turn, h1, h2, h3, h4⟩ k => ⟨gs, small, turn, (k b (.inl rfl)).trans h1, (k g (.inr (.inl rfl))).trans h2, (k s (.inr (.inr rfl))).trans h3, h4⟩,
  fun H a ⟨gs, small, turn, h1, h2, h3, h4⟩ e => by
    rcases e with rfl | rfl | rfl
    · rw [h1]; simp
    · rw [h2]; simp
    · rw [h3]; simp⟩
def IsBox (R : Rsc) : Prop := ∃ b g s, b ≠ g ∧ b ≠ s ∧ g ≠ s ∧ R = boxR b g s
/-- what _law_box promises -/
def spBox (K : PySem.W.Frag) : Sp := fun vs H Q _ => ∃ (a : Addr) (ns : List Int), vs = [.ref a] ∧ SqL K H a (ns.map V.int) ∧ ns.length ≤ 63 ∧ ∀ b g s H', b ≠ g → b ≠ s → g ≠ s → H b = none → H g = none → H s = none → (∀ x o, H x = some o → H' x = some o) → (boxR b g s).I H' → Q (.ref b) H'
theorem sw_box {Γ : Ctx} {K : PySem.W.Frag} {te : TE} {tu : TS} {E : XK} {ρ : Env} {Δ : Fin} {i : Nat} (hK : K = Γ.K) (hR : Γ.R = Rsc.no) (hX : Γ.X = []) (h : EW Γ te ρ fun d ρ1 => ∃ ns : List Int, d = .lst (ns.map D.int) ∧ ns.length ≤ 63 ∧ ∀ R, IsBox R → SW { Γ with R := R } tu (ρ1.set i (some (.fz (.ptr R.w)))) Δ) :
    SW Γ (tSeq (tAsg (tCall (spBox K) [] E (tCons te tNil)) (gName i)) tu) ρ Δ := fun σ G0 H0 D k0 hn hr hb hc => h σ G0 H0 _ k0 fun d ρ1 v G1 H1 e1 k1 r1 ⟨ns, hd, hl, hs⟩ => by
  subst hd hK
  obtain ⟨K, G, H, R, X⟩ := Γ
  cases hR
  cases hX
  cases r1 with
  | @lst a xs _ hq hss =>
    have := hss.ints
    subst this
    refine ⟨a, ns, rfl, seq_of k1.gh hq, hl, fun b g s H' d1 d2 d3 hb0 hg0 hs0 ext hI => ?_⟩
    have fF : ∀ x, (boxR b g s).F x → H1 x = none := fun x e => by
      rcases e with rfl | rfl | rfl
      · exact hb0
      · exact hg0
      · exact hs0
    have g1 : ∀ x, H1 x = none → G1 x = none := fun x e => by
      cases z : G1 x with
      | none => rfl
      | some o => rw [k1.gh x o z] at e; cases e
    have h0 : ∀ x, H1 x = none → H x = none := fun x e => by
      cases z : H x with
      | none => rfl
      | some o => exact absurd e (k1.dm x (by show H x ≠ none; rw [z]; simp))
    have bv : ∀ {v : V} {c : B}, BV (⟨K, G, H, Rsc.no, []⟩ : Ctx) G1 H1 v c → BV (⟨K, G, H, boxR b g s, []⟩ : Ctx) G1 H' v c := fun {v c} q => by
      cases c with
      | fz d => exact q
      | ow es =>
        obtain ⟨y, o, rfl, q1, q2, q3, q4, q5⟩ := q
        exact ⟨y, o, rfl, ext y o q1, q2, q3, (fun e => by rw [fF y e] at q1; cases q1), q5⟩
    have k' : Ok (⟨K, G, H, boxR b g s, []⟩ : Ctx) G1 H' (σ.set i (some (.ref b))) (ρ1.set i (some (.fz (.ptr b)))) := by
      have ow : ∀ j y, own (σ.set i (some (.ref b))) (ρ1.set i (some (.fz (.ptr b)))) j y → own σ ρ1 j y := fun j y ⟨p, es, q⟩ => by
        by_cases hj : j = i
        · subst hj
          rw [List.getElem?_set] at q
          simp only [if_true] at q
          split at q <;> cases q
        · rw [List.getElem?_set_ne (Ne.symm hj)] at p q
          exact ⟨p, es, q⟩
      refine ⟨fun x o z => ext x o (k1.gh x o z), k1.g0, k1.nw, fun x o _ z => ext x o (k1.fr x o (fun z => z) z), fun x z => ?_, hI, fun x e => g1 x (fF x e), by rw [List.length_set, List.length_set]; exact k1.len, fun j c z => ?_, fun j l y o1 o2 => k1.dj j l y (ow j y o1) (ow l y o2), fun p hp => absurd hp (by simp), fun j y _ p hp => absurd hp (by simp)⟩
      · cases w : H1 x with
        | none => exact absurd w (k1.dm x z)
        | some o => rw [ext x o w]; simp
      · by_cases hj : j = i
        · subst hj
          have hlt : j < ρ1.length := by
            have := (List.getElem?_eq_some_iff.mp z).1
            rw [List.length_set] at this
            exact this
          rw [List.getElem?_set_self hlt] at z
          cases z
          exact ⟨_, List.getElem?_set_self (by rw [k1.len]; exact hlt), Rep.ptr b⟩
        · rw [List.getElem?_set_ne (Ne.symm hj)] at z
          obtain ⟨v, e1, e2⟩ := k1.var j c z
          exact ⟨v, by rw [List.getElem?_set_ne (Ne.symm hj)]; exact e1, bv e2⟩
    have un : ∀ {G' H' : Hp} {σ' : St} {ρ' : Env}, Ok (⟨K, G, H, boxR b g s, []⟩ : Ctx) G' H' σ' ρ' → Ok (⟨K, G, H, Rsc.no, []⟩ : Ctx) G' H' σ' ρ' := fun k => by
      refine ⟨k.gh, k.g0, k.nw, fun x o _ z => ?_, k.dm, trivial, fun x e => e.elim, k.len, fun j c z => ?_, k.dj, fun p hp => absurd hp (by simp), fun j y _ p hp => absurd hp (by simp)⟩
      · exact k.fr x o (fun e => by
          have := h0 x (fF x e)
          have z' : H x = some o := z
          rw [this] at z'
          cases z') z
      · obtain ⟨v, e1, e2⟩ := k.var j c z
        refine ⟨v, e1, ?_⟩
        cases c with
        | fz d => exact e2
        | ow es =>
          obtain ⟨y, o, rfl, q1, q2, q3, q4, q5⟩ := e2
          exact ⟨y, o, rfl, q1, q2, q3, fun e => e, q5⟩
    refine hs (boxR b g s) ⟨b, g, s, d1, d2, d3, rfl⟩ (σ.set i (some (.ref b))) G1 H' D k' (fun ρ' σ' G' H' e k' p => hn ρ' σ' G' H' (e1.trans e) (un k') p) (fun c v σ' ρ' G' H' k' r p => hr c v σ' ρ' G' H' (un k') ?_ p) (fun ρ' σ' G' H' e k' p => hb ρ' σ' G' H' (e1.trans e) (un k') p) (fun ρ' σ' G' H' e k' p => hc ρ' σ' G' H' (e1.trans e) (un k') p)
    obtain ⟨r1, r2⟩ := r
    refine ⟨?_, r2⟩
    cases c with
    | fz d => exact r1
    | ow es =>
      obtain ⟨y, o, e, q1, q2, q3, q4, q5⟩ := r1
      exact ⟨y, o, e, q1, q2, q3, fun e => e, q5⟩
/-- the first statement, told by its own law; the rest as it stands -/
theorem sw_run {Γ : Ctx} {ts tu : TS} {ρ : Env} {M : Env → Prop} {σ : St} {G H : Hp} {D : Ends} (h : SW Γ ts ρ { nx := M, rt := fun _ => False, bk := fun _ => False, ct := fun _ => False, xr := fun _ _ _ _ => False }) (k : Ok Γ G H σ ρ) (hn : ∀ ρ' σ' G' H', Ex G G' → Ok Γ G' H' σ' ρ' → M ρ' → tu D σ' H') : tSeq ts tu D σ H :=
  h σ G H { D with nx := tu D } k hn (fun _ _ _ _ _ _ _ _ z => z.elim) (fun _ _ _ _ _ _ z => z.elim) (fun _ _ _ _ _ _ z => z.elim)
section
variable {Γ : Ctx} {ρ : Env} {te : TE} {Φ : D → Env → Prop} {Ψ : B → Env → Prop}
theorem rgV_rep {K : PySem.W.Frag} {G : Hp} {n : Int} : RepL K G (rgV 0 n) (rngD n.toNat) := by
  unfold rgV rngD
  rw [Int.sub_zero]
  have : ∀ xs : List Nat, RepL K G (xs.map fun i => V.int (0 + (i : Nat))) (xs.map fun (i : Nat) => D.int (i : Int)) := fun xs => by
    induction xs with
    | nil => exact .nil
    | cons x xs ih =>
      rw [List.map_cons, List.map_cons, Int.zero_add]
      exact .cons (.int _) ih
  exact this _
/-- list(range(e)) -/
theorem eb_listRg (h : EW Γ te ρ fun d ρ1 => ∃ n : Int, d = .int n ∧ (-100 ≤ n ∧ n ≤ 100000) ∧ Ψ (.ow (.lst (rngD n.toNat))) ρ1) : EB Γ (tLstRg (tRg1 te)) ρ Ψ := fun σ G H Q k q =>
  h σ G H _ k fun d ρ1 v G1 H1 e1 k1 r1 ⟨n, hd, ⟨b0, b1⟩, p⟩ => by
    subst hd
    cases r1
    exact ⟨n, rfl, ⟨by omega, by omega, by omega, by omega, by omega⟩, fun q' hq => q _ ρ1 _ _ _ e1 (k1.newO hq) (br_new k1 hq rgV_rep) p⟩
end
end Dl

/-! Tm: tuple * int, also once -/
namespace L2
open PySem PySem.Spec PyProof.Rows
theorem tuple_mul1W (l : Addr) (items : Array Value) (n : Nat) (dd : Option Addr) (sl : Array (Option Value)) (u : Tok) :
    Meets (Builtin.«tuple.__mul__» ⟨[.ref l, .int 1 u], []⟩) (fun _ R s => s.heap.get? l = some { cls := .type "tuple", dict := dd, data := .seq items n, slots := sl } ∧ R (.ok (.ret (Value.ref l))) s) :=
  .of_wp fun prog w A R s h => by
    obtain ⟨hp, g, d, tk, os⟩ := s
    obtain ⟨hl, h⟩ := h
    have f1 := AutoSeq1.idx_int
    wp_walk using wpAny_loadPart' hl
    repeat (first
      | (refine wpAny_ite_false (decide_eq_false (by decide)) ?_; wp_walk using wpAny_loadPart' hl)
      | (refine wpAny_ite_true (by simp) ?_; wp_walk using wpAny_loadPart' hl))
    exact ⟨_, rfl, h⟩
def rRepT1 (K : PySem.W.Frag) : R2 := fun x y H Q => ∃ l k xs, x = .ref l ∧ y = .int k ∧ SqT K H l xs ∧ xs ≠ [] ∧ 1 ≤ k ∧ k ≤ 1000 ∧ xs.length ≤ 1000 ∧ (k = 1 → Q (.ref l) H) ∧ (2 ≤ k → ∀ p, H p = none → Q (.ref p) (upd H p (.tup (List.replicate k.toNat xs).flatten)))
theorem op_repT1 {X : Cx} : OpR X (binaryOp .Mult) (rRepT1 X.K) := by
  intro pins s σ H x y v u Q I rx ry h
  obtain ⟨l, k, xs, rfl, rfl, hT, hne, h1, h2, hz, q1, q2⟩ := h
  by_cases hk : k = 1
  · subst hk
    cases rx
    obtain ⟨t, rfl⟩ := ry
    obtain ⟨its, r, ⟨⟨cls, dd, data, sl⟩, ho, hc, n, hd⟩, hs⟩ := I.tuple hT
    simp only at hc hd
    subst hc hd
    refine wpAny_binaryOp_repeat_ref (T := "tuple") (U := "int") (by decide) ⟨_, ho, rfl⟩ (fun s' => typeIs_int s' 1 t) noFill_tuple_mul F.fills_int_mul F.slot_int_rmul repeat_tuple F.slot_int_index.lookup
      (call_meets F.slot_int_rmul (typeIs_int s 1 t) F.entry_int_rmul (F.args_int_rmul_2 _ _) (int_rmul_tuple 1 t l its.toArray n dd sl)
        ⟨ho, rfl, ⟨_, ho, rfl⟩, call_meets F.slot_tuple_mul ⟨_, ho, rfl⟩ F.entry_tuple_mul (F.args_tuple_mul_2 _ _) (tuple_mul1W l its.toArray n dd sl t) ⟨ho, ?_⟩⟩)
    exact ⟨.ref l, H, I, rfl, q1 rfl⟩
  · exact op_repT pins s σ H _ _ v u Q I rx ry ⟨l, k, xs, rfl, rfl, hT, hne, by omega, h2, hz, q2 (by omega)⟩
end L2
namespace Dl
open PySem L2
open Evl (Ex)
/-- t * k, t a tuple -/
theorem ew_repT {Γ : Ctx} {K : PySem.W.Frag} {ρ : Env} {ta tb : TE} {Φ : D → Env → Prop} (hK : K = Γ.K) (h : EW Γ ta ρ fun x ρ1 => EW Γ tb ρ1 fun y ρ2 => ∃ ds k, x = .tup ds ∧ y = .int k ∧ ds ≠ [] ∧ 1 ≤ k ∧ k ≤ 1000 ∧ ds.length ≤ 1000 ∧ Φ (.tup (List.replicate k.toNat ds).flatten) ρ2) : EW Γ (tOp (rRepT1 K) ta tb) ρ Φ := fun σ G H Q k q =>
  h σ G H _ k fun x ρ1 vx G1 H1 e1 k1 r1 h1 => h1 σ G1 H1 _ k1 fun y ρ2 vy G2 H2 e2 k2 r2 ⟨ds, n, hx, hy, hne, n1, n2, hl, p⟩ => by
    subst hx hy hK
    cases r2
    have r1' := r1.mono e2
    cases r1' with
    | @tup a vs _ hq hs =>
      refine ⟨a, n, vs, rfl, rfl, sq_up k2.gh hq, fun e => hne ?_, n1, n2, by rw [hs.length]; exact hl, fun en => ?_, fun _ c hc => ?_⟩
      · subst e
        cases hs
        rfl
      · subst en
        have e : (List.replicate (1 : Int).toNat ds).flatten = ds := by
          show [ds].flatten = ds
          simp
        rw [e] at p
        exact q _ ρ2 _ G2 H2 (e1.trans e2) k2 (.tup hq hs) p
      · obtain ⟨k4, e4⟩ := k2.new (o := .tup (List.replicate n.toNat vs).flatten) hc
        exact q _ ρ2 _ _ _ ((e1.trans e2).trans e4) k4 (.tup (SqT.of upd_same) ((hs.mono e4).flat _)) p
end Dl

/-! Rc: what is reached along arrows, by bits; two ways to reckon it -/
namespace Rc
inductive Reach (E : List (Nat × Nat)) (x : Nat) : Nat → Prop
  | refl : Reach E x x
  | step {y z : Nat} : Reach E x y → (y, z) ∈ E → Reach E x z
theorem Reach.trans {E : List (Nat × Nat)} {x y z : Nat} (h1 : Reach E x y) (h2 : Reach E y z) : Reach E x z := by
  induction h2 with
  | refl => exact h1
  | step _ he ih => exact .step ih he
theorem Reach.mono {E F : List (Nat × Nat)} (h : ∀ p ∈ E, p ∈ F) {x y : Nat} (r : Reach E x y) : Reach F x y := by
  induction r with
  | refl => exact .refl
  | step _ he ih => exact .step ih (h _ he)
theorem reach_app {E : List (Nat × Nat)} {a b x y : Nat} : Reach (E ++ [(a, b)]) x y ↔ Reach E x y ∨ (Reach E x a ∧ Reach E b y) := by
  constructor
  · intro h
    induction h with
    | refl => exact .inl .refl
    | step _ he ih =>
      rcases List.mem_append.mp he with he | he
      · rcases ih with ih | ⟨i1, i2⟩
        · exact .inl (.step ih he)
        · exact .inr ⟨i1, .step i2 he⟩
      · have e := List.mem_singleton.mp he
        cases e
        rcases ih with ih | ⟨i1, i2⟩
        · exact .inr ⟨ih, .refl⟩
        · exact .inr ⟨i1, .refl⟩
  · rintro (h | ⟨h1, h2⟩)
    · exact h.mono fun p hp => List.mem_append_left _ hp
    · exact (Reach.step (h1.mono fun p hp => List.mem_append_left _ hp) (by simp)).trans (h2.mono fun p hp => List.mem_append_left _ hp)
def bit (R : List Nat) (x y : Nat) : Bool := (R.getD x 0).testBit y
structure Is (n : Nat) (E : List (Nat × Nat)) (R : List Nat) : Prop where
  len : R.length = n
  at_ : ∀ x y, x < n → (bit R x y = true ↔ Reach E x y)
def ones (n : Nat) : List Nat := (List.range n).map fun k => 2 ^ k
theorem getD_map {α : Type} {xs : List α} {f : α → Nat} {x : Nat} {d : α} (h : x < xs.length) : (xs.map f).getD x 0 = f (xs.getD x d) := by
  rw [List.getD_eq_getElem?_getD, List.getElem?_map, List.getElem?_eq_getElem h, List.getD_eq_getElem?_getD, List.getElem?_eq_getElem h]
  rfl
theorem ones_len {n : Nat} : (ones n).length = n := by
  unfold ones
  rw [List.length_map, List.length_range]
theorem bit_ones {n x y : Nat} (h : x < n) : bit (ones n) x y = decide (x = y) := by
  unfold bit ones
  rw [getD_map (d := 0) (by rw [List.length_range]; exact h), List.getD_eq_getElem?_getD, List.getElem?_range h]
  show Nat.testBit (2 ^ x) y = _
  rw [Nat.testBit_two_pow]
theorem is_nil {n : Nat} : Is n [] (ones n) := by
  refine ⟨ones_len, fun x y h => ?_⟩
  rw [bit_ones h, decide_eq_true_iff]
  constructor
  · rintro rfl
    exact .refl
  · intro r
    cases r with
    | refl => rfl
    | step _ he => exact absurd he (by simp)
def joinedL (R : List Nat) (a b : Nat) : List Nat := R.map fun m => if m.testBit a = true then m ||| R.getD b 0 else m
theorem is_join {n : Nat} {E : List (Nat × Nat)} {R : List Nat} {a b : Nat} (h : Is n E R) (ha : a < n) (hb : b < n) : Is n (E ++ [(a, b)]) (joinedL R a b) := by
  refine ⟨by unfold joinedL; rw [List.length_map, h.len], fun x y hx => ?_⟩
  have e : bit (joinedL R a b) x y = (bit R x y || (bit R x a && bit R b y)) := by
    unfold bit joinedL
    rw [getD_map (d := 0) (by rw [h.len]; exact hx)]
    cases (R.getD x 0).testBit a with
    | true => rw [if_pos rfl, Nat.testBit_or, Bool.true_and]
    | false => rw [if_neg Bool.false_ne_true, Bool.false_and, Bool.or_false]
  rw [e, reach_app, Bool.or_eq_true, Bool.and_eq_true, h.at_ x y hx, h.at_ x a hx, h.at_ b y hb]
theorem is_reach {n : Nat} : ∀ {E E0 : List (Nat × Nat)} {R : List Nat}, (∀ p ∈ E, p.1 < n ∧ p.2 < n) → Is n E0 R → Is n (E0 ++ E) (E.foldl (fun R p => joinedL R p.1 p.2) R)
  | [], E0, R, _, h => by rw [List.append_nil]; exact h
  | (a, b) :: E, E0, R, hE, h => by
    have h1 := hE (a, b) List.mem_cons_self
    have := is_reach (E := E) (fun p hp => hE p (List.mem_cons_of_mem _ hp)) (is_join h h1.1 h1.2)
    rw [List.append_assoc] at this
    exact this
def reachL (n : Nat) (E : List (Nat × Nat)) : List Nat := E.foldl (fun R p => joinedL R p.1 p.2) (ones n)
theorem reach_is {n : Nat} {E : List (Nat × Nat)} (hE : ∀ p ∈ E, p.1 < n ∧ p.2 < n) : Is n E (reachL n E) := is_reach (E0 := []) hE is_nil
/-! by rounds -/
def relaxS (R : List Nat) (p : Nat × Nat) : List Nat := R.set p.1 (R.getD p.1 0 ||| R.getD p.2 0)
def relaxL (E : List (Nat × Nat)) (R : List Nat) : List Nat := E.foldl relaxS R
def roundsL (E : List (Nat × Nat)) : Nat → List Nat → List Nat
  | 0, R => R
  | k + 1, R => relaxL E (roundsL E k R)
theorem relaxS_len {R : List Nat} {p : Nat × Nat} : (relaxS R p).length = R.length := by
  unfold relaxS
  rw [List.length_set]
theorem relaxL_len : ∀ {E : List (Nat × Nat)} {R : List Nat}, (relaxL E R).length = R.length
  | [], R => rfl
  | p :: E, R => (relaxL_len (E := E) (R := relaxS R p)).trans relaxS_len
theorem roundsL_len {E : List (Nat × Nat)} {R : List Nat} : ∀ {k : Nat}, (roundsL E k R).length = R.length
  | 0 => rfl
  | k + 1 => relaxL_len.trans roundsL_len
theorem bit_relaxS {R : List Nat} {p : Nat × Nat} {x y : Nat} (hp : p.1 < R.length) : bit (relaxS R p) x y = (bit R x y || (decide (x = p.1) && bit R p.2 y)) := by
  unfold bit relaxS
  by_cases h : x = p.1
  · subst h
    rw [List.getD_eq_getElem?_getD, List.getElem?_set_self hp, decide_eq_true rfl, Bool.true_and]
    show Nat.testBit (R.getD p.1 0 ||| R.getD p.2 0) y = _
    rw [Nat.testBit_or]
  · rw [List.getD_eq_getElem?_getD, List.getElem?_set_ne (Ne.symm h), decide_eq_false h, Bool.false_and, Bool.or_false, ← List.getD_eq_getElem?_getD]
theorem relaxS_mono {R : List Nat} {p : Nat × Nat} {x y : Nat} (hp : p.1 < R.length) (h : bit R x y = true) : bit (relaxS R p) x y = true := by
  rw [bit_relaxS hp, h, Bool.true_or]
theorem relaxL_mono {x y : Nat} : ∀ {E : List (Nat × Nat)} {R : List Nat}, (∀ p ∈ E, p.1 < R.length) → bit R x y = true → bit (relaxL E R) x y = true
  | [], R, _, h => h
  | p :: E, R, hE, h => relaxL_mono (E := E) (R := relaxS R p) (fun q hq => by rw [relaxS_len]; exact hE q (List.mem_cons_of_mem _ hq)) (relaxS_mono (hE p List.mem_cons_self) h)
theorem rounds_mono {E : List (Nat × Nat)} {R : List Nat} {x y : Nat} (hE : ∀ p ∈ E, p.1 < R.length) {j : Nat} : ∀ {k : Nat}, j ≤ k → bit (roundsL E j R) x y = true → bit (roundsL E k R) x y = true
  | 0, hj, h => by
    have : j = 0 := by omega
    subst this
    exact h
  | k + 1, hj, h => by
    by_cases e : j = k + 1
    · subst e
      exact h
    · exact relaxL_mono (fun p hp => by rw [roundsL_len]; exact hE p hp) (rounds_mono hE (by omega) h)
theorem relaxL_sound {F : List (Nat × Nat)} : ∀ {E : List (Nat × Nat)} {R : List Nat}, (∀ p ∈ E, p.1 < R.length) → (∀ p ∈ E, p ∈ F) → (∀ x y, bit R x y = true → Reach F x y) → ∀ x y, bit (relaxL E R) x y = true → Reach F x y
  | [], R, _, _, h => h
  | p :: E, R, hE, hF, h => relaxL_sound (E := E) (R := relaxS R p) (fun q hq => by rw [relaxS_len]; exact hE q (List.mem_cons_of_mem _ hq)) (fun q hq => hF q (List.mem_cons_of_mem _ hq)) fun x y hb => by
    rw [bit_relaxS (hE p List.mem_cons_self), Bool.or_eq_true, Bool.and_eq_true] at hb
    rcases hb with hb | ⟨h1, h2⟩
    · exact h x y hb
    · have e := of_decide_eq_true h1
      subst e
      exact (Reach.step .refl (hF p List.mem_cons_self)).trans (h _ _ h2)
theorem rounds_sound {E : List (Nat × Nat)} {R : List Nat} (hE : ∀ p ∈ E, p.1 < R.length) (h : ∀ x y, bit R x y = true → Reach E x y) : ∀ k x y, bit (roundsL E k R) x y = true → Reach E x y
  | 0 => h
  | k + 1 => relaxL_sound (fun p hp => by rw [roundsL_len]; exact hE p hp) (fun p hp => hp) (rounds_sound hE h k)
theorem relaxL_at {y : Nat} : ∀ {E : List (Nat × Nat)} {R : List Nat}, (∀ p ∈ E, p.1 < R.length) → ∀ p ∈ E, bit R p.2 y = true → bit (relaxL E R) p.1 y = true
  | [], R, _, p, hp, _ => absurd hp (by simp)
  | q :: E, R, hE, p, hp, h => by
    have hE' : ∀ r ∈ E, r.1 < (relaxS R q).length := fun r hr => by rw [relaxS_len]; exact hE r (List.mem_cons_of_mem _ hr)
    rcases List.mem_cons.mp hp with rfl | hp
    · show bit (relaxL E (relaxS R p)) p.1 y = true
      refine relaxL_mono hE' ?_
      rw [bit_relaxS (hE p List.mem_cons_self), h, decide_eq_true rfl, Bool.true_and, Bool.or_true]
    · show bit (relaxL E (relaxS R q)) p.1 y = true
      exact relaxL_at hE' p hp (relaxS_mono (hE q List.mem_cons_self) h)
theorem count_eq {p q : Nat → Bool} : ∀ {l : List Nat}, (∀ x ∈ l, p x = true → q x = true) → l.countP q ≤ l.countP p → ∀ x ∈ l, q x = true → p x = true
  | [], _, _, x, hx, _ => absurd hx (by simp)
  | z :: l, h, hc, x, hx, hq => by
    have hm : l.countP p ≤ l.countP q := List.countP_mono_left fun w hw => h w (List.mem_cons_of_mem _ hw)
    have hz := h z List.mem_cons_self
    rw [List.countP_cons, List.countP_cons] at hc
    by_cases hqz : q z = true
    · by_cases hpz : p z = true
      · rcases List.mem_cons.mp hx with rfl | hx
        · exact hpz
        · rw [if_pos hqz, if_pos hpz] at hc
          exact count_eq (fun w hw => h w (List.mem_cons_of_mem _ hw)) (by omega) x hx hq
      · rw [if_pos hqz, if_neg hpz] at hc
        omega
    · have hpz : ¬ p z = true := fun e => hqz (hz e)
      rw [if_neg hqz, if_neg hpz] at hc
      rcases List.mem_cons.mp hx with rfl | hx
      · exact absurd hq hqz
      · exact count_eq (fun w hw => h w (List.mem_cons_of_mem _ hw)) (by omega) x hx hq
def cnt (n y : Nat) (R : List Nat) : Nat := (List.range n).countP fun x => bit R x y
def Closed (E : List (Nat × Nat)) (y : Nat) (R : List Nat) : Prop := ∀ p ∈ E, bit R p.2 y = true → bit R p.1 y = true
theorem grow {n y : Nat} {E : List (Nat × Nat)} {R : List Nat} (hl : R.length = n) (hE : ∀ p ∈ E, p.1 < n) : Closed E y R ∨ cnt n y R < cnt n y (relaxL E R) := by
  by_cases h : cnt n y R < cnt n y (relaxL E R)
  · exact .inr h
  · refine .inl fun p hp hb => ?_
    have hE' : ∀ p ∈ E, p.1 < R.length := fun p hp => by rw [hl]; exact hE p hp
    have h1 := relaxL_at hE' p hp hb
    exact count_eq (p := fun x => bit R x y) (q := fun x => bit (relaxL E R) x y) (l := List.range n) (fun x _ hx => relaxL_mono hE' hx) (by unfold cnt at h; omega) p.1 (List.mem_range.mpr (hE p hp)) h1
theorem grows {n y : Nat} {E : List (Nat × Nat)} {R : List Nat} (hl : R.length = n) (hE : ∀ p ∈ E, p.1 < n) : ∀ k, (∃ j, j < k ∧ Closed E y (roundsL E j R)) ∨ k + cnt n y R ≤ cnt n y (roundsL E k R)
  | 0 => .inr (by show 0 + cnt n y R ≤ cnt n y R; omega)
  | k + 1 => by
    rcases grows hl hE k with ⟨j, hj, h⟩ | h
    · exact .inl ⟨j, by omega, h⟩
    · rcases grow (y := y) (E := E) (R := roundsL E k R) (by rw [roundsL_len]; exact hl) hE with h1 | h1
      · exact .inl ⟨k, by omega, h1⟩
      · refine .inr ?_
        show k + 1 + cnt n y R ≤ cnt n y (relaxL E (roundsL E k R))
        omega
theorem closed_reach {E : List (Nat × Nat)} {R : List Nat} {y : Nat} (h : Closed E y R) {x z : Nat} (r : Reach E x z) (hz : bit R z y = true) : bit R x y = true := by
  induction r with
  | refl => exact hz
  | step _ he ih => exact ih (h _ he hz)
/-- after as many rounds as there are nodes -/
theorem rounds_is {n : Nat} {E : List (Nat × Nat)} (hE : ∀ p ∈ E, p.1 < n ∧ p.2 < n) {x y : Nat} (hx : x < n) (hy : y < n) : bit (roundsL E n (ones n)) x y = true ↔ Reach E x y := by
  have hE1 : ∀ p ∈ E, p.1 < n := fun p hp => (hE p hp).1
  have hE2 : ∀ p ∈ E, p.1 < (ones n).length := fun p hp => by rw [ones_len]; exact hE1 p hp
  constructor
  · refine rounds_sound hE2 (fun x y h => ?_) n x y
    by_cases hx : x < n
    · rw [bit_ones hx] at h
      rw [of_decide_eq_true h]
      exact .refl
    · unfold bit at h
      rw [List.getD_eq_getElem?_getD, List.getElem?_eq_none (by rw [ones_len]; omega)] at h
      simp at h
  · intro r
    have hyy : bit (ones n) y y = true := by rw [bit_ones hy]; exact decide_eq_true rfl
    rcases grows (y := y) (E := E) (R := ones n) ones_len hE1 n with ⟨j, hj, h⟩ | h
    · exact rounds_mono hE2 (by omega) (closed_reach h r (rounds_mono hE2 (Nat.zero_le j) hyy))
    · have c1 : cnt n y (roundsL E n (ones n)) ≤ n := by
        have := List.countP_le_length (p := fun x => bit (roundsL E n (ones n)) x y) (l := List.range n)
        rw [List.length_range] at this
        exact this
      have c2 : 0 < cnt n y (ones n) := List.countP_pos_iff.mpr ⟨y, List.mem_range.mpr hy, hyy⟩
      omega
/-- both ways tell the same -/
theorem both {n : Nat} {E : List (Nat × Nat)} (hE : ∀ p ∈ E, p.1 < n ∧ p.2 < n) {x y : Nat} (hx : x < n) (hy : y < n) : bit (reachL n E) x y = bit (roundsL E n (ones n)) x y := by
  have h1 := (reach_is hE).at_ x y hx
  have h2 := rounds_is hE hx hy
  cases e1 : bit (reachL n E) x y <;> cases e2 : bit (roundsL E n (ones n)) x y
  · rfl
  · have := h1.mpr (h2.mp e2)
    rw [e1] at this
    cases this
  · have := h2.mpr (h1.mp e1)
    rw [e2] at this
    cases this
  · rfl
end Rc

namespace Pf
open PySem L2 Dl
def top (i : Nat) : Stmt := PySem.Challenge.pw_mirrorcounts_k38_directions_judged.main.body.getD i (.Pass ⟨0, 0, 0, 0⟩)
abbrev s_is_integer : Stmt := top 2
abbrev s_is_number : Stmt := top 3
abbrev s_is_number_below : Stmt := top 4
abbrev s_is_sequence : Stmt := top 5
abbrev s_is_pair : Stmt := top 6
abbrev s_are_integers : Stmt := top 7
abbrev s_is_rising : Stmt := top 8
abbrev s_is_lot_below : Stmt := top 9
abbrev s_frozen : Stmt := top 10
abbrev s_arrow_of : Stmt := top 12
abbrev s_arrows_of : Stmt := top 13
abbrev s_nothing_joined : Stmt := top 14
abbrev s_is_reached : Stmt := top 15
abbrev s_joined : Stmt := top 16
abbrev s_reach_along : Stmt := top 17
abbrev s_has_ring : Stmt := top 18
abbrev s_InvalidWeb__init : Stmt := inClass (top 21) 0
abbrev s_InvalidLot__init : Stmt := inClass (top 22) 0
abbrev s_InvalidArrangement__init : Stmt := inClass (top 23) 0
abbrev s_root_of : Stmt := top 25
abbrev s_join : Stmt := top 26
abbrev s_join_along : Stmt := top 27
abbrev s_rank_of_ties : Stmt := top 28
abbrev s_roots_by_ties : Stmt := top 29
abbrev s_piece_lots : Stmt := top 30
abbrev s_is_direction : Stmt := top 32
abbrev s_check_direction : Stmt := top 33
abbrev s_is_ringless : Stmt := top 34
abbrev s_is_round : Stmt := top 35
abbrev s_arrivals : Stmt := top 36
abbrev s_is_tie : Stmt := top 38
abbrev s_is_web : Stmt := top 39
abbrev s_Web__init : Stmt := inClass (top 40) 0
abbrev s_Web__eq : Stmt := inClass (top 40) 1
abbrev s_Web__pieces : Stmt := inClass (top 40) 2
abbrev s_Web__rank : Stmt := inClass (top 40) 3
abbrev s__law_box : Stmt := top 42
abbrev s__law_draw : Stmt := top 43
abbrev s__law_mixed : Stmt := top 44
abbrev s__law_same : Stmt := top 45
abbrev s__law_web : Stmt := top 46
abbrev s__law_looped : Stmt := top 47
abbrev s__law_told : Stmt := top 48
abbrev s__law_on_rings : Stmt := top 49
abbrev s__law_drawn : Stmt := top 50
abbrev s__law_asked : Stmt := top 51
abbrev s__law_spoilt : Stmt := top 52
abbrev s__law_all : Stmt := top 53
abbrev s_law : Stmt := top 54
theorem sc_is_integer : FnScope ["value"] ["value"] (defScope s_is_integer) := ⟨rfl, rfl, rfl, by decide +kernel, rfl, by decide +kernel, by decide +kernel⟩
theorem sc_is_number : FnScope ["value"] ["value"] (defScope s_is_number) := ⟨rfl, rfl, rfl, by decide +kernel, rfl, by decide +kernel, by decide +kernel⟩
theorem sc_is_number_below : FnScope ["value", "limit"] ["value", "limit"] (defScope s_is_number_below) := ⟨rfl, rfl, rfl, by decide +kernel, rfl, by decide +kernel, by decide +kernel⟩
theorem sc_is_sequence : FnScope ["value"] ["value"] (defScope s_is_sequence) := ⟨rfl, rfl, rfl, by decide +kernel, rfl, by decide +kernel, by decide +kernel⟩
theorem sc_is_pair : FnScope ["value"] ["value"] (defScope s_is_pair) := ⟨rfl, rfl, rfl, by decide +kernel, rfl, by decide +kernel, by decide +kernel⟩
theorem sc_are_integers : FnScope ["value", "one"] ["value"] (defScope s_are_integers) := ⟨rfl, rfl, rfl, by decide +kernel, rfl, by decide +kernel, by decide +kernel⟩
theorem sc_is_rising : FnScope ["value", "k"] ["value"] (defScope s_is_rising) := ⟨rfl, rfl, rfl, by decide +kernel, rfl, by decide +kernel, by decide +kernel⟩
theorem sc_is_lot_below : FnScope ["value", "limit", "one"] ["value", "limit"] (defScope s_is_lot_below) := ⟨rfl, rfl, rfl, by decide +kernel, rfl, by decide +kernel, by decide +kernel⟩
theorem sc_frozen : FnScope ["value", "one"] ["value"] (defScope s_frozen) := ⟨rfl, rfl, rfl, by decide +kernel, rfl, by decide +kernel, by decide +kernel⟩
theorem sc_arrow_of : FnScope ["tie", "way", "i", "j"] ["tie", "way"] (defScope s_arrow_of) := ⟨rfl, rfl, rfl, by decide +kernel, rfl, by decide +kernel, by decide +kernel⟩
theorem sc_arrows_of : FnScope ["ties", "direction", "tie", "way"] ["ties", "direction"] (defScope s_arrows_of) := ⟨rfl, rfl, rfl, by decide +kernel, rfl, by decide +kernel, by decide +kernel⟩
theorem sc_nothing_joined : FnScope ["size", "node"] ["size"] (defScope s_nothing_joined) := ⟨rfl, rfl, rfl, by decide +kernel, rfl, by decide +kernel, by decide +kernel⟩
theorem sc_is_reached : FnScope ["reach", "a", "b"] ["reach", "a", "b"] (defScope s_is_reached) := ⟨rfl, rfl, rfl, by decide +kernel, rfl, by decide +kernel, by decide +kernel⟩
theorem sc_joined : FnScope ["reach", "a", "b", "gained", "row"] ["reach", "a", "b"] (defScope s_joined) := ⟨rfl, rfl, rfl, by decide +kernel, rfl, by decide +kernel, by decide +kernel⟩
theorem sc_reach_along : FnScope ["size", "arrows", "reach", "a", "b"] ["size", "arrows"] (defScope s_reach_along) := ⟨rfl, rfl, rfl, by decide +kernel, rfl, by decide +kernel, by decide +kernel⟩
theorem sc_has_ring : FnScope ["reach", "arrows", "a", "b"] ["reach", "arrows"] (defScope s_has_ring) := ⟨rfl, rfl, rfl, by decide +kernel, rfl, by decide +kernel, by decide +kernel⟩
theorem sc_InvalidWeb__init : FnScope ["self", "value"] ["self", "value"] (defScope s_InvalidWeb__init) := ⟨rfl, rfl, rfl, by decide +kernel, rfl, by decide +kernel, by decide +kernel⟩
theorem sc_InvalidLot__init : FnScope ["self", "value"] ["self", "value"] (defScope s_InvalidLot__init) := ⟨rfl, rfl, rfl, by decide +kernel, rfl, by decide +kernel, by decide +kernel⟩
theorem sc_InvalidArrangement__init : FnScope ["self", "value"] ["self", "value"] (defScope s_InvalidArrangement__init) := ⟨rfl, rfl, rfl, by decide +kernel, rfl, by decide +kernel, by decide +kernel⟩
theorem sc_root_of : FnScope ["parents", "node"] ["parents", "node"] (defScope s_root_of) := ⟨rfl, rfl, rfl, by decide +kernel, rfl, by decide +kernel, by decide +kernel⟩
theorem sc_join : FnScope ["parents", "first", "second", "one", "other"] ["parents", "first", "second"] (defScope s_join) := ⟨rfl, rfl, rfl, by decide +kernel, rfl, by decide +kernel, by decide +kernel⟩
theorem sc_join_along : FnScope ["parents", "ties", "many", "first", "second"] ["parents", "ties"] (defScope s_join_along) := ⟨rfl, rfl, rfl, by decide +kernel, rfl, by decide +kernel, by decide +kernel⟩
theorem sc_rank_of_ties : FnScope ["size", "ties"] ["size", "ties"] (defScope s_rank_of_ties) := ⟨rfl, rfl, rfl, by decide +kernel, rfl, by decide +kernel, by decide +kernel⟩
theorem sc_roots_by_ties : FnScope ["size", "ties", "parents", "node"] ["size", "ties"] (defScope s_roots_by_ties) := ⟨rfl, rfl, rfl, by decide +kernel, rfl, by decide +kernel, by decide +kernel⟩
theorem sc_piece_lots : FnScope ["size", "ties", "lots", "roots", "node", "root"] ["size", "ties"] (defScope s_piece_lots) := ⟨rfl, rfl, rfl, by decide +kernel, rfl, by decide +kernel, by decide +kernel⟩
theorem sc_is_direction : FnScope ["web", "value", "way"] ["web", "value"] (defScope s_is_direction) := ⟨rfl, rfl, rfl, by decide +kernel, rfl, by decide +kernel, by decide +kernel⟩
theorem sc_check_direction : FnScope ["web", "direction"] ["web", "direction"] (defScope s_check_direction) := ⟨rfl, rfl, rfl, by decide +kernel, rfl, by decide +kernel, by decide +kernel⟩
theorem sc_is_ringless : FnScope ["web", "direction", "arrows"] ["web", "direction"] (defScope s_is_ringless) := ⟨rfl, rfl, rfl, by decide +kernel, rfl, by decide +kernel, by decide +kernel⟩
theorem sc_is_round : FnScope ["web", "direction", "arrows", "reach", "a", "b"] ["web", "direction"] (defScope s_is_round) := ⟨rfl, rfl, rfl, by decide +kernel, rfl, by decide +kernel, by decide +kernel⟩
theorem sc_arrivals : FnScope ["web", "direction", "counts", "_", "end"] ["web", "direction"] (defScope s_arrivals) := ⟨rfl, rfl, rfl, by decide +kernel, rfl, by decide +kernel, by decide +kernel⟩
theorem sc_is_tie : FnScope ["value", "size", "first", "second"] ["value", "size"] (defScope s_is_tie) := ⟨rfl, rfl, rfl, by decide +kernel, rfl, by decide +kernel, by decide +kernel⟩
theorem sc_is_web : FnScope ["size", "ties", "tie"] ["size", "ties"] (defScope s_is_web) := ⟨rfl, rfl, rfl, by decide +kernel, rfl, by decide +kernel, by decide +kernel⟩
theorem sc_Web__init : FnScope ["self", "size", "ties", "kept"] ["self", "size", "ties"] (defScope s_Web__init) := ⟨rfl, rfl, rfl, by decide +kernel, rfl, by decide +kernel, by decide +kernel⟩
theorem sc_Web__eq : FnScope ["self", "other"] ["self", "other"] (defScope s_Web__eq) := ⟨rfl, rfl, rfl, by decide +kernel, rfl, by decide +kernel, by decide +kernel⟩
theorem sc_Web__pieces : FnScope ["self"] ["self"] (defScope s_Web__pieces) := ⟨rfl, rfl, rfl, by decide +kernel, rfl, by decide +kernel, by decide +kernel⟩
theorem sc_Web__rank : FnScope ["self", "lot", "k"] ["self", "lot"] (defScope s_Web__rank) := ⟨rfl, rfl, rfl, by decide +kernel, rfl, by decide +kernel, by decide +kernel⟩
theorem sc__law_box : FnScope ["script", "great", "cell", "small"] ["script"] (defScope s__law_box) := ⟨rfl, rfl, rfl, by decide +kernel, rfl, by decide +kernel, by decide +kernel⟩
theorem sc__law_draw : FnScope ["box", "many", "great", "small", "turn", "digit", "cell", "mixed"] ["box", "many"] (defScope s__law_draw) := ⟨rfl, rfl, rfl, by decide +kernel, rfl, by decide +kernel, by decide +kernel⟩
theorem sc__law_mixed : FnScope ["box", "rows", "left", "out", "k"] ["box", "rows"] (defScope s__law_mixed) := ⟨rfl, rfl, rfl, by decide +kernel, rfl, by decide +kernel, by decide +kernel⟩
theorem sc__law_same : FnScope ["came", "due", "k"] ["came", "due"] (defScope s__law_same) := ⟨rfl, rfl, rfl, by decide +kernel, rfl, by decide +kernel, by decide +kernel⟩
theorem sc__law_web : FnScope ["box", "sizes", "most", "size", "shape", "ties", "k", "one", "other", "named", "turned", "i", "j"] ["box", "sizes", "most"] (defScope s__law_web) := ⟨rfl, rfl, rfl, by decide +kernel, rfl, by decide +kernel, by decide +kernel⟩
theorem sc__law_looped : FnScope ["box", "size", "ties", "out", "at", "k"] ["box", "size", "ties"] (defScope s__law_looped) := ⟨rfl, rfl, rfl, by decide +kernel, rfl, by decide +kernel, by decide +kernel⟩
theorem sc__law_told : FnScope ["box", "pairs", "way", "pair"] ["box", "pairs"] (defScope s__law_told) := ⟨rfl, rfl, rfl, by decide +kernel, rfl, by decide +kernel, by decide +kernel⟩
theorem sc__law_on_rings : FnScope ["size", "arrows", "reach", "k", "step", "a", "b"] ["size", "arrows"] (defScope s__law_on_rings) := ⟨rfl, rfl, rfl, by decide +kernel, rfl, by decide +kernel, by decide +kernel⟩
theorem sc__law_drawn : FnScope ["box", "size", "ties", "way", "row", "k", "rank", "at"] ["box", "size", "ties"] (defScope s__law_drawn) := ⟨rfl, rfl, rfl, by decide +kernel, rfl, by decide +kernel, by decide +kernel⟩
theorem sc__law_asked : FnScope ["web", "size", "ties", "row", "arrows", "k", "on", "direction", "ends", "arrow", "node"] ["web", "size", "ties", "row"] (defScope s__law_asked) := ⟨rfl, rfl, rfl, by decide +kernel, rfl, by decide +kernel, by decide +kernel⟩
theorem sc__law_spoilt : FnScope ["box", "row", "way", "at", "bad"] ["box", "row"] (defScope s__law_spoilt) := ⟨rfl, rfl, rfl, by decide +kernel, rfl, by decide +kernel, by decide +kernel⟩
theorem sc__law_all : FnScope ["script", "box", "size", "ties", "web", "order", "moved", "k", "other", "turn", "row", "value"] ["script"] (defScope s__law_all) := ⟨rfl, rfl, rfl, by decide +kernel, rfl, by decide +kernel, by decide +kernel⟩
theorem sc_law : FnScope ["script"] ["script"] (defScope s_law) := ⟨rfl, rfl, rfl, by decide +kernel, rfl, by decide +kernel, by decide +kernel⟩
structure Ad where
  is_integer : Addr
  fd_is_integer : FuncData
  is_number : Addr
  fd_is_number : FuncData
  is_number_below : Addr
  fd_is_number_below : FuncData
  is_sequence : Addr
  fd_is_sequence : FuncData
  is_pair : Addr
  fd_is_pair : FuncData
  are_integers : Addr
  fd_are_integers : FuncData
  is_rising : Addr
  fd_is_rising : FuncData
  is_lot_below : Addr
  fd_is_lot_below : FuncData
  frozen : Addr
  fd_frozen : FuncData
  arrow_of : Addr
  fd_arrow_of : FuncData
  arrows_of : Addr
  fd_arrows_of : FuncData
  nothing_joined : Addr
  fd_nothing_joined : FuncData
  is_reached : Addr
  fd_is_reached : FuncData
  joined : Addr
  fd_joined : FuncData
  reach_along : Addr
  fd_reach_along : FuncData
  has_ring : Addr
  fd_has_ring : FuncData
  InvalidWeb__init : Addr
  fd_InvalidWeb__init : FuncData
  InvalidLot__init : Addr
  fd_InvalidLot__init : FuncData
  InvalidArrangement__init : Addr
  fd_InvalidArrangement__init : FuncData
  root_of : Addr
  fd_root_of : FuncData
  join : Addr
  fd_join : FuncData
  join_along : Addr
  fd_join_along : FuncData
  rank_of_ties : Addr
  fd_rank_of_ties : FuncData
  roots_by_ties : Addr
  fd_roots_by_ties : FuncData
  piece_lots : Addr
  fd_piece_lots : FuncData
  is_direction : Addr
  fd_is_direction : FuncData
  check_direction : Addr
  fd_check_direction : FuncData
  is_ringless : Addr
  fd_is_ringless : FuncData
  is_round : Addr
  fd_is_round : FuncData
  arrivals : Addr
  fd_arrivals : FuncData
  is_tie : Addr
  fd_is_tie : FuncData
  is_web : Addr
  fd_is_web : FuncData
  Web__init : Addr
  fd_Web__init : FuncData
  Web__eq : Addr
  fd_Web__eq : FuncData
  Web__pieces : Addr
  fd_Web__pieces : FuncData
  Web__rank : Addr
  fd_Web__rank : FuncData
  _law_box : Addr
  fd__law_box : FuncData
  _law_draw : Addr
  fd__law_draw : FuncData
  _law_mixed : Addr
  fd__law_mixed : FuncData
  _law_same : Addr
  fd__law_same : FuncData
  _law_web : Addr
  fd__law_web : FuncData
  _law_looped : Addr
  fd__law_looped : FuncData
  _law_told : Addr
  fd__law_told : FuncData
  _law_on_rings : Addr
  fd__law_on_rings : FuncData
  _law_drawn : Addr
  fd__law_drawn : FuncData
  _law_asked : Addr
  fd__law_asked : FuncData
  _law_spoilt : Addr
  fd__law_spoilt : FuncData
  _law_all : Addr
  fd__law_all : FuncData
  law : Addr
  fd_law : FuncData
  c_CountError : Addr
  c_InvalidWeb : Addr
  c_InvalidLot : Addr
  c_InvalidArrangement : Addr
  c_Web : Addr
structure Txt (K : PySem.W.Frag) (mg : Str → Option Value) (A : Ad) : Prop where
  F_is_integer : Fun K "is_integer" "is_integer" s_is_integer A.is_integer A.fd_is_integer
  m_is_integer : mg "is_integer" = some (.ref A.is_integer)
  F_is_number : Fun K "is_number" "is_number" s_is_number A.is_number A.fd_is_number
  m_is_number : mg "is_number" = some (.ref A.is_number)
  F_is_number_below : Fun K "is_number_below" "is_number_below" s_is_number_below A.is_number_below A.fd_is_number_below
  m_is_number_below : mg "is_number_below" = some (.ref A.is_number_below)
  F_is_sequence : Fun K "is_sequence" "is_sequence" s_is_sequence A.is_sequence A.fd_is_sequence
  m_is_sequence : mg "is_sequence" = some (.ref A.is_sequence)
  F_is_pair : Fun K "is_pair" "is_pair" s_is_pair A.is_pair A.fd_is_pair
  m_is_pair : mg "is_pair" = some (.ref A.is_pair)
  F_are_integers : Fun K "are_integers" "are_integers" s_are_integers A.are_integers A.fd_are_integers
  m_are_integers : mg "are_integers" = some (.ref A.are_integers)
  F_is_rising : Fun K "is_rising" "is_rising" s_is_rising A.is_rising A.fd_is_rising
  m_is_rising : mg "is_rising" = some (.ref A.is_rising)
  F_is_lot_below : Fun K "is_lot_below" "is_lot_below" s_is_lot_below A.is_lot_below A.fd_is_lot_below
  m_is_lot_below : mg "is_lot_below" = some (.ref A.is_lot_below)
  F_frozen : Fun K "frozen" "frozen" s_frozen A.frozen A.fd_frozen
  m_frozen : mg "frozen" = some (.ref A.frozen)
  F_arrow_of : Fun K "arrow_of" "arrow_of" s_arrow_of A.arrow_of A.fd_arrow_of
  m_arrow_of : mg "arrow_of" = some (.ref A.arrow_of)
  F_arrows_of : Fun K "arrows_of" "arrows_of" s_arrows_of A.arrows_of A.fd_arrows_of
  m_arrows_of : mg "arrows_of" = some (.ref A.arrows_of)
  F_nothing_joined : Fun K "nothing_joined" "nothing_joined" s_nothing_joined A.nothing_joined A.fd_nothing_joined
  m_nothing_joined : mg "nothing_joined" = some (.ref A.nothing_joined)
  F_is_reached : Fun K "is_reached" "is_reached" s_is_reached A.is_reached A.fd_is_reached
  m_is_reached : mg "is_reached" = some (.ref A.is_reached)
  F_joined : Fun K "joined" "joined" s_joined A.joined A.fd_joined
  m_joined : mg "joined" = some (.ref A.joined)
  F_reach_along : Fun K "reach_along" "reach_along" s_reach_along A.reach_along A.fd_reach_along
  m_reach_along : mg "reach_along" = some (.ref A.reach_along)
  F_has_ring : Fun K "has_ring" "has_ring" s_has_ring A.has_ring A.fd_has_ring
  m_has_ring : mg "has_ring" = some (.ref A.has_ring)
  F_InvalidWeb__init : Fun K "__init__" "InvalidWeb.__init__" s_InvalidWeb__init A.InvalidWeb__init A.fd_InvalidWeb__init
  F_InvalidLot__init : Fun K "__init__" "InvalidLot.__init__" s_InvalidLot__init A.InvalidLot__init A.fd_InvalidLot__init
  F_InvalidArrangement__init : Fun K "__init__" "InvalidArrangement.__init__" s_InvalidArrangement__init A.InvalidArrangement__init A.fd_InvalidArrangement__init
  F_root_of : Fun K "root_of" "root_of" s_root_of A.root_of A.fd_root_of
  m_root_of : mg "root_of" = some (.ref A.root_of)
  F_join : Fun K "join" "join" s_join A.join A.fd_join
  m_join : mg "join" = some (.ref A.join)
  F_join_along : Fun K "join_along" "join_along" s_join_along A.join_along A.fd_join_along
  m_join_along : mg "join_along" = some (.ref A.join_along)
  F_rank_of_ties : Fun K "rank_of_ties" "rank_of_ties" s_rank_of_ties A.rank_of_ties A.fd_rank_of_ties
  m_rank_of_ties : mg "rank_of_ties" = some (.ref A.rank_of_ties)
  F_roots_by_ties : Fun K "roots_by_ties" "roots_by_ties" s_roots_by_ties A.roots_by_ties A.fd_roots_by_ties
  m_roots_by_ties : mg "roots_by_ties" = some (.ref A.roots_by_ties)
  F_piece_lots : Fun K "piece_lots" "piece_lots" s_piece_lots A.piece_lots A.fd_piece_lots
  m_piece_lots : mg "piece_lots" = some (.ref A.piece_lots)
  F_is_direction : Fun K "is_direction" "is_direction" s_is_direction A.is_direction A.fd_is_direction
  m_is_direction : mg "is_direction" = some (.ref A.is_direction)
  F_check_direction : Fun K "check_direction" "check_direction" s_check_direction A.check_direction A.fd_check_direction
  m_check_direction : mg "check_direction" = some (.ref A.check_direction)
  F_is_ringless : Fun K "is_ringless" "is_ringless" s_is_ringless A.is_ringless A.fd_is_ringless
  m_is_ringless : mg "is_ringless" = some (.ref A.is_ringless)
  F_is_round : Fun K "is_round" "is_round" s_is_round A.is_round A.fd_is_round
  m_is_round : mg "is_round" = some (.ref A.is_round)
  F_arrivals : Fun K "arrivals" "arrivals" s_arrivals A.arrivals A.fd_arrivals
  m_arrivals : mg "arrivals" = some (.ref A.arrivals)
  F_is_tie : Fun K "is_tie" "is_tie" s_is_tie A.is_tie A.fd_is_tie
  m_is_tie : mg "is_tie" = some (.ref A.is_tie)
  F_is_web : Fun K "is_web" "is_web" s_is_web A.is_web A.fd_is_web
  m_is_web : mg "is_web" = some (.ref A.is_web)
  F_Web__init : Fun K "__init__" "Web.__init__" s_Web__init A.Web__init A.fd_Web__init
  F_Web__eq : Fun K "__eq__" "Web.__eq__" s_Web__eq A.Web__eq A.fd_Web__eq
  F_Web__pieces : Fun K "pieces" "Web.pieces" s_Web__pieces A.Web__pieces A.fd_Web__pieces
  F_Web__rank : Fun K "rank" "Web.rank" s_Web__rank A.Web__rank A.fd_Web__rank
  F__law_box : Fun K "_law_box" "_law_box" s__law_box A._law_box A.fd__law_box
  m__law_box : mg "_law_box" = some (.ref A._law_box)
  F__law_draw : Fun K "_law_draw" "_law_draw" s__law_draw A._law_draw A.fd__law_draw
  m__law_draw : mg "_law_draw" = some (.ref A._law_draw)
  F__law_mixed : Fun K "_law_mixed" "_law_mixed" s__law_mixed A._law_mixed A.fd__law_mixed
  m__law_mixed : mg "_law_mixed" = some (.ref A._law_mixed)
  F__law_same : Fun K "_law_same" "_law_same" s__law_same A._law_same A.fd__law_same
  m__law_same : mg "_law_same" = some (.ref A._law_same)
  F__law_web : Fun K "_law_web" "_law_web" s__law_web A._law_web A.fd__law_web
  m__law_web : mg "_law_web" = some (.ref A._law_web)
  F__law_looped : Fun K "_law_looped" "_law_looped" s__law_looped A._law_looped A.fd__law_looped
  m__law_looped : mg "_law_looped" = some (.ref A._law_looped)
  F__law_told : Fun K "_law_told" "_law_told" s__law_told A._law_told A.fd__law_told
  m__law_told : mg "_law_told" = some (.ref A._law_told)
  F__law_on_rings : Fun K "_law_on_rings" "_law_on_rings" s__law_on_rings A._law_on_rings A.fd__law_on_rings
  m__law_on_rings : mg "_law_on_rings" = some (.ref A._law_on_rings)
  F__law_drawn : Fun K "_law_drawn" "_law_drawn" s__law_drawn A._law_drawn A.fd__law_drawn
  m__law_drawn : mg "_law_drawn" = some (.ref A._law_drawn)
  F__law_asked : Fun K "_law_asked" "_law_asked" s__law_asked A._law_asked A.fd__law_asked
  m__law_asked : mg "_law_asked" = some (.ref A._law_asked)
  F__law_spoilt : Fun K "_law_spoilt" "_law_spoilt" s__law_spoilt A._law_spoilt A.fd__law_spoilt
  m__law_spoilt : mg "_law_spoilt" = some (.ref A._law_spoilt)
  F__law_all : Fun K "_law_all" "_law_all" s__law_all A._law_all A.fd__law_all
  m__law_all : mg "_law_all" = some (.ref A._law_all)
  F_law : Fun K "law" "law" s_law A.law A.fd_law
  m_law : mg "law" = some (.ref A.law)
  m_CountError : mg "CountError" = some (.ref A.c_CountError)
  te_CountError : PySem.W.exmOne K (.ref A.c_CountError) (.ref A.c_CountError) = some true
  m_InvalidWeb : mg "InvalidWeb" = some (.ref A.c_InvalidWeb)
  te_InvalidWeb : PySem.W.exmOne K (.ref A.c_InvalidWeb) (.ref A.c_InvalidWeb) = some true
  te_InvalidWeb_CountError : PySem.W.exmOne K (.ref A.c_InvalidWeb) (.ref A.c_CountError) = some true
  ox_InvalidWeb : OexC K A.c_InvalidWeb
  xf_InvalidWeb : XfC K A.c_InvalidWeb
  i_InvalidWeb : PySem.W.findIn K (.ref A.c_InvalidWeb) "__init__" = some (some (.ref A.InvalidWeb__init))
  t_InvalidWeb : PySem.W.typeIn K (.ref A.InvalidWeb__init) = some (.type "function")
  no_InvalidWeb_value : PySem.W.findIn K (.ref A.c_InvalidWeb) "value" = some none
  m_InvalidLot : mg "InvalidLot" = some (.ref A.c_InvalidLot)
  te_InvalidLot : PySem.W.exmOne K (.ref A.c_InvalidLot) (.ref A.c_InvalidLot) = some true
  te_InvalidLot_CountError : PySem.W.exmOne K (.ref A.c_InvalidLot) (.ref A.c_CountError) = some true
  ox_InvalidLot : OexC K A.c_InvalidLot
  xf_InvalidLot : XfC K A.c_InvalidLot
  i_InvalidLot : PySem.W.findIn K (.ref A.c_InvalidLot) "__init__" = some (some (.ref A.InvalidLot__init))
  t_InvalidLot : PySem.W.typeIn K (.ref A.InvalidLot__init) = some (.type "function")
  no_InvalidLot_value : PySem.W.findIn K (.ref A.c_InvalidLot) "value" = some none
  m_InvalidArrangement : mg "InvalidArrangement" = some (.ref A.c_InvalidArrangement)
  te_InvalidArrangement : PySem.W.exmOne K (.ref A.c_InvalidArrangement) (.ref A.c_InvalidArrangement) = some true
  te_InvalidArrangement_CountError : PySem.W.exmOne K (.ref A.c_InvalidArrangement) (.ref A.c_CountError) = some true
  ox_InvalidArrangement : OexC K A.c_InvalidArrangement
  xf_InvalidArrangement : XfC K A.c_InvalidArrangement
  i_InvalidArrangement : PySem.W.findIn K (.ref A.c_InvalidArrangement) "__init__" = some (some (.ref A.InvalidArrangement__init))
  t_InvalidArrangement : PySem.W.typeIn K (.ref A.InvalidArrangement__init) = some (.type "function")
  no_InvalidArrangement_value : PySem.W.findIn K (.ref A.c_InvalidArrangement) "value" = some none
  m_Web : mg "Web" = some (.ref A.c_Web)
  cl_Web : Cls K A.c_Web
  ot_Web : Dl.ObjTy K A.c_Web
  kt_Web_int : PySem.W.kitOne K (.ref A.c_Web) (.type "int") = some false
  kt_Web_bool : PySem.W.kitOne K (.ref A.c_Web) (.type "bool") = some false
  kt_Web_tuple : PySem.W.kitOne K (.ref A.c_Web) (.type "tuple") = some false
  kt_Web_list : PySem.W.kitOne K (.ref A.c_Web) (.type "list") = some false
  kt_Web_str : PySem.W.kitOne K (.ref A.c_Web) (.type "str") = some false
  mk_Web : Mk K A.c_Web A.Web__init
  me_Web__eq : Meth K A.c_Web "__eq__" A.Web__eq
  me_Web__pieces : Meth K A.c_Web "pieces" A.Web__pieces
  me_Web__rank : Meth K A.c_Web "rank" A.Web__rank
  no_Web_size : PySem.W.findIn K (.ref A.c_Web) "size" = some none
  no_Web_ties : PySem.W.findIn K (.ref A.c_Web) "ties" = some none
  b_abs : mg "abs" = none
  b_len : mg "len" = none
  b_range : mg "range" = none
  b_int : mg "int" = none
  b_str : mg "str" = none
  b_isinstance : mg "isinstance" = none
  b_tuple : mg "tuple" = none
  b_list : mg "list" = none
  b_sorted : mg "sorted" = none
  b_min : mg "min" = none
  b_max : mg "max" = none
  b_all : mg "all" = none
  b_any : mg "any" = none
  b_zip : mg "zip" = none
  b_bool : mg "bool" = none
  b_ValueError : mg "ValueError" = none
theorem all_mk {K : PySem.W.Frag} {h : Heap} {mg : Str → Option Value} {fa : Addr} (X : K.In h) (G : h.Ns mainGlobals mg) (hfa : mg "law" = some (.ref fa))
    {oc1 kV1 dc1 pm1 cd1 ct1 : Value} {od1 an1 : Option Addr} {sl1 : Array (Option Value)}
    {f1 : Addr}
    {oc2 kV2 dc2 pm2 cd2 ct2 : Value} {od2 an2 : Option Addr} {sl2 : Array (Option Value)}
    {f2 : Addr}
    {oc3 kV3 dc3 pm3 cd3 ct3 : Value} {od3 an3 : Option Addr} {sl3 : Array (Option Value)}
    {f3 : Addr}
    {oc4 kV4 dc4 pm4 cd4 ct4 : Value} {od4 an4 : Option Addr} {sl4 : Array (Option Value)}
    {f4 : Addr}
    {oc5 kV5 dc5 pm5 cd5 ct5 : Value} {od5 an5 : Option Addr} {sl5 : Array (Option Value)}
    {f5 : Addr}
    {oc6 kV6 dc6 pm6 cd6 ct6 : Value} {od6 an6 : Option Addr} {sl6 : Array (Option Value)}
    {f6 : Addr}
    {oc7 kV7 dc7 pm7 cd7 ct7 : Value} {od7 an7 : Option Addr} {sl7 : Array (Option Value)}
    {f7 : Addr}
    {oc8 kV8 dc8 pm8 cd8 ct8 : Value} {od8 an8 : Option Addr} {sl8 : Array (Option Value)}
    {f8 : Addr}
    {oc9 kV9 dc9 pm9 cd9 ct9 : Value} {od9 an9 : Option Addr} {sl9 : Array (Option Value)}
    {f9 : Addr}
    {oc10 kV10 dc10 pm10 cd10 ct10 : Value} {od10 an10 : Option Addr} {sl10 : Array (Option Value)}
    {f10 : Addr}
    {oc11 kV11 dc11 pm11 cd11 ct11 : Value} {od11 an11 : Option Addr} {sl11 : Array (Option Value)}
    {f11 : Addr}
    {oc12 kV12 dc12 pm12 cd12 ct12 : Value} {od12 an12 : Option Addr} {sl12 : Array (Option Value)}
    {f12 : Addr}
    {oc13 kV13 dc13 pm13 cd13 ct13 : Value} {od13 an13 : Option Addr} {sl13 : Array (Option Value)}
    {f13 : Addr}
    {oc14 kV14 dc14 pm14 cd14 ct14 : Value} {od14 an14 : Option Addr} {sl14 : Array (Option Value)}
    {f14 : Addr}
    {oc15 kV15 dc15 pm15 cd15 ct15 : Value} {od15 an15 : Option Addr} {sl15 : Array (Option Value)}
    {f15 : Addr}
    {oc16 kV16 dc16 pm16 cd16 ct16 : Value} {od16 an16 : Option Addr} {sl16 : Array (Option Value)}
    {f16 : Addr}
    {oc17 kV17 dc17 pm17 cd17 ct17 : Value} {od17 an17 : Option Addr} {sl17 : Array (Option Value)}
    {f17 : Addr}
    {oc18 kV18 dc18 pm18 cd18 ct18 : Value} {od18 an18 : Option Addr} {sl18 : Array (Option Value)}
    {f18 : Addr}
    {oc19 kV19 dc19 pm19 cd19 ct19 : Value} {od19 an19 : Option Addr} {sl19 : Array (Option Value)}
    {f19 : Addr}
    {oc20 kV20 dc20 pm20 cd20 ct20 : Value} {od20 an20 : Option Addr} {sl20 : Array (Option Value)}
    {f20 : Addr}
    {oc21 kV21 dc21 pm21 cd21 ct21 : Value} {od21 an21 : Option Addr} {sl21 : Array (Option Value)}
    {f21 : Addr}
    {oc22 kV22 dc22 pm22 cd22 ct22 : Value} {od22 an22 : Option Addr} {sl22 : Array (Option Value)}
    {f22 : Addr}
    {oc23 kV23 dc23 pm23 cd23 ct23 : Value} {od23 an23 : Option Addr} {sl23 : Array (Option Value)}
    {f23 : Addr}
    {oc24 kV24 dc24 pm24 cd24 ct24 : Value} {od24 an24 : Option Addr} {sl24 : Array (Option Value)}
    {f24 : Addr}
    {oc25 kV25 dc25 pm25 cd25 ct25 : Value} {od25 an25 : Option Addr} {sl25 : Array (Option Value)}
    {f25 : Addr}
    {oc26 kV26 dc26 pm26 cd26 ct26 : Value} {od26 an26 : Option Addr} {sl26 : Array (Option Value)}
    {f26 : Addr}
    {oc27 kV27 dc27 pm27 cd27 ct27 : Value} {od27 an27 : Option Addr} {sl27 : Array (Option Value)}
    {f27 : Addr}
    {oc28 kV28 dc28 pm28 cd28 ct28 : Value} {od28 an28 : Option Addr} {sl28 : Array (Option Value)}
    {f28 : Addr}
    {oc29 kV29 dc29 pm29 cd29 ct29 : Value} {od29 an29 : Option Addr} {sl29 : Array (Option Value)}
    {f29 : Addr}
    {oc30 kV30 dc30 pm30 cd30 ct30 : Value} {od30 an30 : Option Addr} {sl30 : Array (Option Value)}
    {f30 : Addr}
    {oc31 kV31 dc31 pm31 cd31 ct31 : Value} {od31 an31 : Option Addr} {sl31 : Array (Option Value)}
    {f31 : Addr}
    {oc32 kV32 dc32 pm32 cd32 ct32 : Value} {od32 an32 : Option Addr} {sl32 : Array (Option Value)}
    {f32 : Addr}
    {oc33 kV33 dc33 pm33 cd33 ct33 : Value} {od33 an33 : Option Addr} {sl33 : Array (Option Value)}
    {f33 : Addr}
    {oc34 kV34 dc34 pm34 cd34 ct34 : Value} {od34 an34 : Option Addr} {sl34 : Array (Option Value)}
    {f34 : Addr}
    {oc35 kV35 dc35 pm35 cd35 ct35 : Value} {od35 an35 : Option Addr} {sl35 : Array (Option Value)}
    {f35 : Addr}
    {oc36 kV36 dc36 pm36 cd36 ct36 : Value} {od36 an36 : Option Addr} {sl36 : Array (Option Value)}
    {f36 : Addr}
    {oc37 kV37 dc37 pm37 cd37 ct37 : Value} {od37 an37 : Option Addr} {sl37 : Array (Option Value)}
    {f37 : Addr}
    {oc38 kV38 dc38 pm38 cd38 ct38 : Value} {od38 an38 : Option Addr} {sl38 : Array (Option Value)}
    {f38 : Addr}
    {oc39 kV39 dc39 pm39 cd39 ct39 : Value} {od39 an39 : Option Addr} {sl39 : Array (Option Value)}
    {f39 : Addr}
    {oc40 kV40 dc40 pm40 cd40 ct40 : Value} {od40 an40 : Option Addr} {sl40 : Array (Option Value)}
    {f40 : Addr}
    {oc41 kV41 dc41 pm41 cd41 ct41 : Value} {od41 an41 : Option Addr} {sl41 : Array (Option Value)}
    {f41 : Addr}
    {oc42 kV42 dc42 pm42 cd42 ct42 : Value} {od42 an42 : Option Addr} {sl42 : Array (Option Value)}
    {f42 : Addr}
    {oc43 kV43 dc43 pm43 cd43 ct43 : Value} {od43 an43 : Option Addr} {sl43 : Array (Option Value)}
    {f43 : Addr}
    {oc44 kV44 dc44 pm44 cd44 ct44 : Value} {od44 an44 : Option Addr} {sl44 : Array (Option Value)}
    {f44 : Addr}
    {oc45 kV45 dc45 pm45 cd45 ct45 : Value} {od45 an45 : Option Addr} {sl45 : Array (Option Value)}
    {f45 : Addr}
    {oc46 kV46 dc46 pm46 cd46 ct46 : Value} {od46 an46 : Option Addr} {sl46 : Array (Option Value)}
    {f46 : Addr}
    {oc47 kV47 dc47 pm47 cd47 ct47 : Value} {od47 an47 : Option Addr} {sl47 : Array (Option Value)}
    {f47 : Addr}
    {oc48 kV48 dc48 pm48 cd48 ct48 : Value} {od48 an48 : Option Addr} {sl48 : Array (Option Value)}
    {f48 : Addr}
    {oc49 kV49 dc49 pm49 cd49 ct49 : Value} {od49 an49 : Option Addr} {sl49 : Array (Option Value)}
    {f49 : Addr}
    {C0 : Addr}
    {nm0 q0 : Str} {N0 : Addr} {bs0 : List Value} {sn0 : List Str} {sub0 : List Value} {ab0 : Bool} {col0 : Option Bool} {dd0 : Option Addr} {ma0 mb0 mc0 me0 mf0 : Option Value}
    {C1 : Addr}
    {nm1 q1 : Str} {N1 : Addr} {bs1 : List Value} {sn1 : List Str} {sub1 : List Value} {ab1 : Bool} {col1 : Option Bool} {dd1 : Option Addr} {ma1 mb1 mc1 me1 mf1 : Option Value}
    {C2 : Addr}
    {nm2 q2 : Str} {N2 : Addr} {bs2 : List Value} {sn2 : List Str} {sub2 : List Value} {ab2 : Bool} {col2 : Option Bool} {dd2 : Option Addr} {ma2 mb2 mc2 me2 mf2 : Option Value}
    {C3 : Addr}
    {nm3 q3 : Str} {N3 : Addr} {bs3 : List Value} {sn3 : List Str} {sub3 : List Value} {ab3 : Bool} {col3 : Option Bool} {dd3 : Option Addr} {ma3 mb3 mc3 me3 mf3 : Option Value}
    {C4 : Addr}
    (aC0 : PySem.W.nsIn K mainGlobals "CountError" = some (some (.ref C0)))
    (aC1 : PySem.W.nsIn K mainGlobals "InvalidWeb" = some (some (.ref C1)))
    (aC2 : PySem.W.nsIn K mainGlobals "InvalidLot" = some (some (.ref C2)))
    (aC3 : PySem.W.nsIn K mainGlobals "InvalidArrangement" = some (some (.ref C3)))
    (aC4 : PySem.W.nsIn K mainGlobals "Web" = some (some (.ref C4)))
    (a1 : PySem.W.nsIn K mainGlobals "is_integer" = some (some (.ref f1)))
    (l1 : K.lookup f1 = some ⟨oc1, od1, .func (PySem.W.fnOf "is_integer" "is_integer" (defArgs s_is_integer) (defBody s_is_integer) (defScope s_is_integer) .none kV1 dc1 pm1 an1 cd1 ct1), sl1⟩)
    (c1 : PySem.W.codeIn K cd1 "is_integer" = true)
    (k1 : PySem.W.keepIn K (.ref f1) = true)
    (a2 : PySem.W.nsIn K mainGlobals "is_number" = some (some (.ref f2)))
    (l2 : K.lookup f2 = some ⟨oc2, od2, .func (PySem.W.fnOf "is_number" "is_number" (defArgs s_is_number) (defBody s_is_number) (defScope s_is_number) .none kV2 dc2 pm2 an2 cd2 ct2), sl2⟩)
    (c2 : PySem.W.codeIn K cd2 "is_number" = true)
    (k2 : PySem.W.keepIn K (.ref f2) = true)
    (a3 : PySem.W.nsIn K mainGlobals "is_number_below" = some (some (.ref f3)))
    (l3 : K.lookup f3 = some ⟨oc3, od3, .func (PySem.W.fnOf "is_number_below" "is_number_below" (defArgs s_is_number_below) (defBody s_is_number_below) (defScope s_is_number_below) .none kV3 dc3 pm3 an3 cd3 ct3), sl3⟩)
    (c3 : PySem.W.codeIn K cd3 "is_number_below" = true)
    (k3 : PySem.W.keepIn K (.ref f3) = true)
    (a4 : PySem.W.nsIn K mainGlobals "is_sequence" = some (some (.ref f4)))
    (l4 : K.lookup f4 = some ⟨oc4, od4, .func (PySem.W.fnOf "is_sequence" "is_sequence" (defArgs s_is_sequence) (defBody s_is_sequence) (defScope s_is_sequence) .none kV4 dc4 pm4 an4 cd4 ct4), sl4⟩)
    (c4 : PySem.W.codeIn K cd4 "is_sequence" = true)
    (k4 : PySem.W.keepIn K (.ref f4) = true)
    (a5 : PySem.W.nsIn K mainGlobals "is_pair" = some (some (.ref f5)))
    (l5 : K.lookup f5 = some ⟨oc5, od5, .func (PySem.W.fnOf "is_pair" "is_pair" (defArgs s_is_pair) (defBody s_is_pair) (defScope s_is_pair) .none kV5 dc5 pm5 an5 cd5 ct5), sl5⟩)
    (c5 : PySem.W.codeIn K cd5 "is_pair" = true)
    (k5 : PySem.W.keepIn K (.ref f5) = true)
    (a6 : PySem.W.nsIn K mainGlobals "are_integers" = some (some (.ref f6)))
    (l6 : K.lookup f6 = some ⟨oc6, od6, .func (PySem.W.fnOf "are_integers" "are_integers" (defArgs s_are_integers) (defBody s_are_integers) (defScope s_are_integers) .none kV6 dc6 pm6 an6 cd6 ct6), sl6⟩)
    (c6 : PySem.W.codeIn K cd6 "are_integers" = true)
    (k6 : PySem.W.keepIn K (.ref f6) = true)
    (a7 : PySem.W.nsIn K mainGlobals "is_rising" = some (some (.ref f7)))
    (l7 : K.lookup f7 = some ⟨oc7, od7, .func (PySem.W.fnOf "is_rising" "is_rising" (defArgs s_is_rising) (defBody s_is_rising) (defScope s_is_rising) .none kV7 dc7 pm7 an7 cd7 ct7), sl7⟩)
    (c7 : PySem.W.codeIn K cd7 "is_rising" = true)
    (k7 : PySem.W.keepIn K (.ref f7) = true)
    (a8 : PySem.W.nsIn K mainGlobals "is_lot_below" = some (some (.ref f8)))
    (l8 : K.lookup f8 = some ⟨oc8, od8, .func (PySem.W.fnOf "is_lot_below" "is_lot_below" (defArgs s_is_lot_below) (defBody s_is_lot_below) (defScope s_is_lot_below) .none kV8 dc8 pm8 an8 cd8 ct8), sl8⟩)
    (c8 : PySem.W.codeIn K cd8 "is_lot_below" = true)
    (k8 : PySem.W.keepIn K (.ref f8) = true)
    (a9 : PySem.W.nsIn K mainGlobals "frozen" = some (some (.ref f9)))
    (l9 : K.lookup f9 = some ⟨oc9, od9, .func (PySem.W.fnOf "frozen" "frozen" (defArgs s_frozen) (defBody s_frozen) (defScope s_frozen) .none kV9 dc9 pm9 an9 cd9 ct9), sl9⟩)
    (c9 : PySem.W.codeIn K cd9 "frozen" = true)
    (k9 : PySem.W.keepIn K (.ref f9) = true)
    (a10 : PySem.W.nsIn K mainGlobals "arrow_of" = some (some (.ref f10)))
    (l10 : K.lookup f10 = some ⟨oc10, od10, .func (PySem.W.fnOf "arrow_of" "arrow_of" (defArgs s_arrow_of) (defBody s_arrow_of) (defScope s_arrow_of) .none kV10 dc10 pm10 an10 cd10 ct10), sl10⟩)
    (c10 : PySem.W.codeIn K cd10 "arrow_of" = true)
    (k10 : PySem.W.keepIn K (.ref f10) = true)
    (a11 : PySem.W.nsIn K mainGlobals "arrows_of" = some (some (.ref f11)))
    (l11 : K.lookup f11 = some ⟨oc11, od11, .func (PySem.W.fnOf "arrows_of" "arrows_of" (defArgs s_arrows_of) (defBody s_arrows_of) (defScope s_arrows_of) .none kV11 dc11 pm11 an11 cd11 ct11), sl11⟩)
    (c11 : PySem.W.codeIn K cd11 "arrows_of" = true)
    (k11 : PySem.W.keepIn K (.ref f11) = true)
    (a12 : PySem.W.nsIn K mainGlobals "nothing_joined" = some (some (.ref f12)))
    (l12 : K.lookup f12 = some ⟨oc12, od12, .func (PySem.W.fnOf "nothing_joined" "nothing_joined" (defArgs s_nothing_joined) (defBody s_nothing_joined) (defScope s_nothing_joined) .none kV12 dc12 pm12 an12 cd12 ct12), sl12⟩)
    (c12 : PySem.W.codeIn K cd12 "nothing_joined" = true)
    (k12 : PySem.W.keepIn K (.ref f12) = true)
    (a13 : PySem.W.nsIn K mainGlobals "is_reached" = some (some (.ref f13)))
    (l13 : K.lookup f13 = some ⟨oc13, od13, .func (PySem.W.fnOf "is_reached" "is_reached" (defArgs s_is_reached) (defBody s_is_reached) (defScope s_is_reached) .none kV13 dc13 pm13 an13 cd13 ct13), sl13⟩)
    (c13 : PySem.W.codeIn K cd13 "is_reached" = true)
    (k13 : PySem.W.keepIn K (.ref f13) = true)
    (a14 : PySem.W.nsIn K mainGlobals "joined" = some (some (.ref f14)))
    (l14 : K.lookup f14 = some ⟨oc14, od14, .func (PySem.W.fnOf "joined" "joined" (defArgs s_joined) (defBody s_joined) (defScope s_joined) .none kV14 dc14 pm14 an14 cd14 ct14), sl14⟩)
    (c14 : PySem.W.codeIn K cd14 "joined" = true)
    (k14 : PySem.W.keepIn K (.ref f14) = true)
    (a15 : PySem.W.nsIn K mainGlobals "reach_along" = some (some (.ref f15)))
    (l15 : K.lookup f15 = some ⟨oc15, od15, .func (PySem.W.fnOf "reach_along" "reach_along" (defArgs s_reach_along) (defBody s_reach_along) (defScope s_reach_along) .none kV15 dc15 pm15 an15 cd15 ct15), sl15⟩)
    (c15 : PySem.W.codeIn K cd15 "reach_along" = true)
    (k15 : PySem.W.keepIn K (.ref f15) = true)
    (a16 : PySem.W.nsIn K mainGlobals "has_ring" = some (some (.ref f16)))
    (l16 : K.lookup f16 = some ⟨oc16, od16, .func (PySem.W.fnOf "has_ring" "has_ring" (defArgs s_has_ring) (defBody s_has_ring) (defScope s_has_ring) .none kV16 dc16 pm16 an16 cd16 ct16), sl16⟩)
    (c16 : PySem.W.codeIn K cd16 "has_ring" = true)
    (k16 : PySem.W.keepIn K (.ref f16) = true)
    (a17 : PySem.W.findIn K (.ref C1) "__init__" = some (some (.ref f17)))
    (t17 : PySem.W.typeIn K (.ref f17) = some (.type "function"))
    (l17 : K.lookup f17 = some ⟨oc17, od17, .func (PySem.W.fnOf "__init__" "InvalidWeb.__init__" (defArgs s_InvalidWeb__init) (defBody s_InvalidWeb__init) (defScope s_InvalidWeb__init) .none kV17 dc17 pm17 an17 cd17 ct17), sl17⟩)
    (c17 : PySem.W.codeIn K cd17 "InvalidWeb.__init__" = true)
    (k17 : PySem.W.keepIn K (.ref f17) = true)
    (a18 : PySem.W.findIn K (.ref C2) "__init__" = some (some (.ref f18)))
    (t18 : PySem.W.typeIn K (.ref f18) = some (.type "function"))
    (l18 : K.lookup f18 = some ⟨oc18, od18, .func (PySem.W.fnOf "__init__" "InvalidLot.__init__" (defArgs s_InvalidLot__init) (defBody s_InvalidLot__init) (defScope s_InvalidLot__init) .none kV18 dc18 pm18 an18 cd18 ct18), sl18⟩)
    (c18 : PySem.W.codeIn K cd18 "InvalidLot.__init__" = true)
    (k18 : PySem.W.keepIn K (.ref f18) = true)
    (a19 : PySem.W.findIn K (.ref C3) "__init__" = some (some (.ref f19)))
    (t19 : PySem.W.typeIn K (.ref f19) = some (.type "function"))
    (l19 : K.lookup f19 = some ⟨oc19, od19, .func (PySem.W.fnOf "__init__" "InvalidArrangement.__init__" (defArgs s_InvalidArrangement__init) (defBody s_InvalidArrangement__init) (defScope s_InvalidArrangement__init) .none kV19 dc19 pm19 an19 cd19 ct19), sl19⟩)
    (c19 : PySem.W.codeIn K cd19 "InvalidArrangement.__init__" = true)
    (k19 : PySem.W.keepIn K (.ref f19) = true)
    (a20 : PySem.W.nsIn K mainGlobals "root_of" = some (some (.ref f20)))
    (l20 : K.lookup f20 = some ⟨oc20, od20, .func (PySem.W.fnOf "root_of" "root_of" (defArgs s_root_of) (defBody s_root_of) (defScope s_root_of) .none kV20 dc20 pm20 an20 cd20 ct20), sl20⟩)
    (c20 : PySem.W.codeIn K cd20 "root_of" = true)
    (k20 : PySem.W.keepIn K (.ref f20) = true)
    (a21 : PySem.W.nsIn K mainGlobals "join" = some (some (.ref f21)))
    (l21 : K.lookup f21 = some ⟨oc21, od21, .func (PySem.W.fnOf "join" "join" (defArgs s_join) (defBody s_join) (defScope s_join) .none kV21 dc21 pm21 an21 cd21 ct21), sl21⟩)
    (c21 : PySem.W.codeIn K cd21 "join" = true)
    (k21 : PySem.W.keepIn K (.ref f21) = true)
    (a22 : PySem.W.nsIn K mainGlobals "join_along" = some (some (.ref f22)))
    (l22 : K.lookup f22 = some ⟨oc22, od22, .func (PySem.W.fnOf "join_along" "join_along" (defArgs s_join_along) (defBody s_join_along) (defScope s_join_along) .none kV22 dc22 pm22 an22 cd22 ct22), sl22⟩)
    (c22 : PySem.W.codeIn K cd22 "join_along" = true)
    (k22 : PySem.W.keepIn K (.ref f22) = true)
    (a23 : PySem.W.nsIn K mainGlobals "rank_of_ties" = some (some (.ref f23)))
    (l23 : K.lookup f23 = some ⟨oc23, od23, .func (PySem.W.fnOf "rank_of_ties" "rank_of_ties" (defArgs s_rank_of_ties) (defBody s_rank_of_ties) (defScope s_rank_of_ties) .none kV23 dc23 pm23 an23 cd23 ct23), sl23⟩)
    (c23 : PySem.W.codeIn K cd23 "rank_of_ties" = true)
    (k23 : PySem.W.keepIn K (.ref f23) = true)
    (a24 : PySem.W.nsIn K mainGlobals "roots_by_ties" = some (some (.ref f24)))
    (l24 : K.lookup f24 = some ⟨oc24, od24, .func (PySem.W.fnOf "roots_by_ties" "roots_by_ties" (defArgs s_roots_by_ties) (defBody s_roots_by_ties) (defScope s_roots_by_ties) .none kV24 dc24 pm24 an24 cd24 ct24), sl24⟩)
    (c24 : PySem.W.codeIn K cd24 "roots_by_ties" = true)
    (k24 : PySem.W.keepIn K (.ref f24) = true)
    (a25 : PySem.W.nsIn K mainGlobals "piece_lots" = some (some (.ref f25)))
    (l25 : K.lookup f25 = some ⟨oc25, od25, .func (PySem.W.fnOf "piece_lots" "piece_lots" (defArgs s_piece_lots) (defBody s_piece_lots) (defScope s_piece_lots) .none kV25 dc25 pm25 an25 cd25 ct25), sl25⟩)
    (c25 : PySem.W.codeIn K cd25 "piece_lots" = true)
    (k25 : PySem.W.keepIn K (.ref f25) = true)
    (a26 : PySem.W.nsIn K mainGlobals "is_direction" = some (some (.ref f26)))
    (l26 : K.lookup f26 = some ⟨oc26, od26, .func (PySem.W.fnOf "is_direction" "is_direction" (defArgs s_is_direction) (defBody s_is_direction) (defScope s_is_direction) .none kV26 dc26 pm26 an26 cd26 ct26), sl26⟩)
    (c26 : PySem.W.codeIn K cd26 "is_direction" = true)
    (k26 : PySem.W.keepIn K (.ref f26) = true)
    (a27 : PySem.W.nsIn K mainGlobals "check_direction" = some (some (.ref f27)))
    (l27 : K.lookup f27 = some ⟨oc27, od27, .func (PySem.W.fnOf "check_direction" "check_direction" (defArgs s_check_direction) (defBody s_check_direction) (defScope s_check_direction) .none kV27 dc27 pm27 an27 cd27 ct27), sl27⟩)
    (c27 : PySem.W.codeIn K cd27 "check_direction" = true)
    (k27 : PySem.W.keepIn K (.ref f27) = true)
    (a28 : PySem.W.nsIn K mainGlobals "is_ringless" = some (some (.ref f28)))
    (l28 : K.lookup f28 = some ⟨oc28, od28, .func (PySem.W.fnOf "is_ringless" "is_ringless" (defArgs s_is_ringless) (defBody s_is_ringless) (defScope s_is_ringless) .none kV28 dc28 pm28 an28 cd28 ct28), sl28⟩)
    (c28 : PySem.W.codeIn K cd28 "is_ringless" = true)
    (k28 : PySem.W.keepIn K (.ref f28) = true)
    (a29 : PySem.W.nsIn K mainGlobals "is_round" = some (some (.ref f29)))
    (l29 : K.lookup f29 = some ⟨oc29, od29, .func (PySem.W.fnOf "is_round" "is_round" (defArgs s_is_round) (defBody s_is_round) (defScope s_is_round) .none kV29 dc29 pm29 an29 cd29 ct29), sl29⟩)
    (c29 : PySem.W.codeIn K cd29 "is_round" = true)
    (k29 : PySem.W.keepIn K (.ref f29) = true)
    (a30 : PySem.W.nsIn K mainGlobals "arrivals" = some (some (.ref f30)))
    (l30 : K.lookup f30 = some ⟨oc30, od30, .func (PySem.W.fnOf "arrivals" "arrivals" (defArgs s_arrivals) (defBody s_arrivals) (defScope s_arrivals) .none kV30 dc30 pm30 an30 cd30 ct30), sl30⟩)
    (c30 : PySem.W.codeIn K cd30 "arrivals" = true)
    (k30 : PySem.W.keepIn K (.ref f30) = true)
    (a31 : PySem.W.nsIn K mainGlobals "is_tie" = some (some (.ref f31)))
    (l31 : K.lookup f31 = some ⟨oc31, od31, .func (PySem.W.fnOf "is_tie" "is_tie" (defArgs s_is_tie) (defBody s_is_tie) (defScope s_is_tie) .none kV31 dc31 pm31 an31 cd31 ct31), sl31⟩)
    (c31 : PySem.W.codeIn K cd31 "is_tie" = true)
    (k31 : PySem.W.keepIn K (.ref f31) = true)
    (a32 : PySem.W.nsIn K mainGlobals "is_web" = some (some (.ref f32)))
    (l32 : K.lookup f32 = some ⟨oc32, od32, .func (PySem.W.fnOf "is_web" "is_web" (defArgs s_is_web) (defBody s_is_web) (defScope s_is_web) .none kV32 dc32 pm32 an32 cd32 ct32), sl32⟩)
    (c32 : PySem.W.codeIn K cd32 "is_web" = true)
    (k32 : PySem.W.keepIn K (.ref f32) = true)
    (a33 : PySem.W.findIn K (.ref C4) "__init__" = some (some (.ref f33)))
    (i33 : PySem.W.isFn K (.ref f33) = true)
    (l33 : K.lookup f33 = some ⟨oc33, od33, .func (PySem.W.fnOf "__init__" "Web.__init__" (defArgs s_Web__init) (defBody s_Web__init) (defScope s_Web__init) .none kV33 dc33 pm33 an33 cd33 ct33), sl33⟩)
    (c33 : PySem.W.codeIn K cd33 "Web.__init__" = true)
    (k33 : PySem.W.keepIn K (.ref f33) = true)
    (a34 : PySem.W.findIn K (.ref C4) "__eq__" = some (some (.ref f34)))
    (i34 : PySem.W.isFn K (.ref f34) = true)
    (l34 : K.lookup f34 = some ⟨oc34, od34, .func (PySem.W.fnOf "__eq__" "Web.__eq__" (defArgs s_Web__eq) (defBody s_Web__eq) (defScope s_Web__eq) .none kV34 dc34 pm34 an34 cd34 ct34), sl34⟩)
    (c34 : PySem.W.codeIn K cd34 "Web.__eq__" = true)
    (k34 : PySem.W.keepIn K (.ref f34) = true)
    (a35 : PySem.W.findIn K (.ref C4) "pieces" = some (some (.ref f35)))
    (i35 : PySem.W.isFn K (.ref f35) = true)
    (l35 : K.lookup f35 = some ⟨oc35, od35, .func (PySem.W.fnOf "pieces" "Web.pieces" (defArgs s_Web__pieces) (defBody s_Web__pieces) (defScope s_Web__pieces) .none kV35 dc35 pm35 an35 cd35 ct35), sl35⟩)
    (c35 : PySem.W.codeIn K cd35 "Web.pieces" = true)
    (k35 : PySem.W.keepIn K (.ref f35) = true)
    (a36 : PySem.W.findIn K (.ref C4) "rank" = some (some (.ref f36)))
    (i36 : PySem.W.isFn K (.ref f36) = true)
    (l36 : K.lookup f36 = some ⟨oc36, od36, .func (PySem.W.fnOf "rank" "Web.rank" (defArgs s_Web__rank) (defBody s_Web__rank) (defScope s_Web__rank) .none kV36 dc36 pm36 an36 cd36 ct36), sl36⟩)
    (c36 : PySem.W.codeIn K cd36 "Web.rank" = true)
    (k36 : PySem.W.keepIn K (.ref f36) = true)
    (a37 : PySem.W.nsIn K mainGlobals "_law_box" = some (some (.ref f37)))
    (l37 : K.lookup f37 = some ⟨oc37, od37, .func (PySem.W.fnOf "_law_box" "_law_box" (defArgs s__law_box) (defBody s__law_box) (defScope s__law_box) .none kV37 dc37 pm37 an37 cd37 ct37), sl37⟩)
    (c37 : PySem.W.codeIn K cd37 "_law_box" = true)
    (k37 : PySem.W.keepIn K (.ref f37) = true)
    (a38 : PySem.W.nsIn K mainGlobals "_law_draw" = some (some (.ref f38)))
    (l38 : K.lookup f38 = some ⟨oc38, od38, .func (PySem.W.fnOf "_law_draw" "_law_draw" (defArgs s__law_draw) (defBody s__law_draw) (defScope s__law_draw) .none kV38 dc38 pm38 an38 cd38 ct38), sl38⟩)
    (c38 : PySem.W.codeIn K cd38 "_law_draw" = true)
    (k38 : PySem.W.keepIn K (.ref f38) = true)
    (a39 : PySem.W.nsIn K mainGlobals "_law_mixed" = some (some (.ref f39)))
    (l39 : K.lookup f39 = some ⟨oc39, od39, .func (PySem.W.fnOf "_law_mixed" "_law_mixed" (defArgs s__law_mixed) (defBody s__law_mixed) (defScope s__law_mixed) .none kV39 dc39 pm39 an39 cd39 ct39), sl39⟩)
    (c39 : PySem.W.codeIn K cd39 "_law_mixed" = true)
    (k39 : PySem.W.keepIn K (.ref f39) = true)
    (a40 : PySem.W.nsIn K mainGlobals "_law_same" = some (some (.ref f40)))
    (l40 : K.lookup f40 = some ⟨oc40, od40, .func (PySem.W.fnOf "_law_same" "_law_same" (defArgs s__law_same) (defBody s__law_same) (defScope s__law_same) .none kV40 dc40 pm40 an40 cd40 ct40), sl40⟩)
    (c40 : PySem.W.codeIn K cd40 "_law_same" = true)
    (k40 : PySem.W.keepIn K (.ref f40) = true)
    (a41 : PySem.W.nsIn K mainGlobals "_law_web" = some (some (.ref f41)))
    (l41 : K.lookup f41 = some ⟨oc41, od41, .func (PySem.W.fnOf "_law_web" "_law_web" (defArgs s__law_web) (defBody s__law_web) (defScope s__law_web) .none kV41 dc41 pm41 an41 cd41 ct41), sl41⟩)
    (c41 : PySem.W.codeIn K cd41 "_law_web" = true)
    (k41 : PySem.W.keepIn K (.ref f41) = true)
    (a42 : PySem.W.nsIn K mainGlobals "_law_looped" = some (some (.ref f42)))
    (l42 : K.lookup f42 = some ⟨oc42, od42, .func (PySem.W.fnOf "_law_looped" "_law_looped" (defArgs s__law_looped) (defBody s__law_looped) (defScope s__law_looped) .none kV42 dc42 pm42 an42 cd42 ct42), sl42⟩)
    (c42 : PySem.W.codeIn K cd42 "_law_looped" = true)
    (k42 : PySem.W.keepIn K (.ref f42) = true)
    (a43 : PySem.W.nsIn K mainGlobals "_law_told" = some (some (.ref f43)))
    (l43 : K.lookup f43 = some ⟨oc43, od43, .func (PySem.W.fnOf "_law_told" "_law_told" (defArgs s__law_told) (defBody s__law_told) (defScope s__law_told) .none kV43 dc43 pm43 an43 cd43 ct43), sl43⟩)
    (c43 : PySem.W.codeIn K cd43 "_law_told" = true)
    (k43 : PySem.W.keepIn K (.ref f43) = true)
    (a44 : PySem.W.nsIn K mainGlobals "_law_on_rings" = some (some (.ref f44)))
    (l44 : K.lookup f44 = some ⟨oc44, od44, .func (PySem.W.fnOf "_law_on_rings" "_law_on_rings" (defArgs s__law_on_rings) (defBody s__law_on_rings) (defScope s__law_on_rings) .none kV44 dc44 pm44 an44 cd44 ct44), sl44⟩)
    (c44 : PySem.W.codeIn K cd44 "_law_on_rings" = true)
    (k44 : PySem.W.keepIn K (.ref f44) = true)
    (a45 : PySem.W.nsIn K mainGlobals "_law_drawn" = some (some (.ref f45)))
    (l45 : K.lookup f45 = some ⟨oc45, od45, .func (PySem.W.fnOf "_law_drawn" "_law_drawn" (defArgs s__law_drawn) (defBody s__law_drawn) (defScope s__law_drawn) .none kV45 dc45 pm45 an45 cd45 ct45), sl45⟩)
    (c45 : PySem.W.codeIn K cd45 "_law_drawn" = true)
    (k45 : PySem.W.keepIn K (.ref f45) = true)
    (a46 : PySem.W.nsIn K mainGlobals "_law_asked" = some (some (.ref f46)))
    (l46 : K.lookup f46 = some ⟨oc46, od46, .func (PySem.W.fnOf "_law_asked" "_law_asked" (defArgs s__law_asked) (defBody s__law_asked) (defScope s__law_asked) .none kV46 dc46 pm46 an46 cd46 ct46), sl46⟩)
    (c46 : PySem.W.codeIn K cd46 "_law_asked" = true)
    (k46 : PySem.W.keepIn K (.ref f46) = true)
    (a47 : PySem.W.nsIn K mainGlobals "_law_spoilt" = some (some (.ref f47)))
    (l47 : K.lookup f47 = some ⟨oc47, od47, .func (PySem.W.fnOf "_law_spoilt" "_law_spoilt" (defArgs s__law_spoilt) (defBody s__law_spoilt) (defScope s__law_spoilt) .none kV47 dc47 pm47 an47 cd47 ct47), sl47⟩)
    (c47 : PySem.W.codeIn K cd47 "_law_spoilt" = true)
    (k47 : PySem.W.keepIn K (.ref f47) = true)
    (a48 : PySem.W.nsIn K mainGlobals "_law_all" = some (some (.ref f48)))
    (l48 : K.lookup f48 = some ⟨oc48, od48, .func (PySem.W.fnOf "_law_all" "_law_all" (defArgs s__law_all) (defBody s__law_all) (defScope s__law_all) .none kV48 dc48 pm48 an48 cd48 ct48), sl48⟩)
    (c48 : PySem.W.codeIn K cd48 "_law_all" = true)
    (k48 : PySem.W.keepIn K (.ref f48) = true)
    (a49 : PySem.W.nsIn K mainGlobals "law" = some (some (.ref f49)))
    (l49 : K.lookup f49 = some ⟨oc49, od49, .func (PySem.W.fnOf "law" "law" (defArgs s_law) (defBody s_law) (defScope s_law) .none kV49 dc49 pm49 an49 cd49 ct49), sl49⟩)
    (c49 : PySem.W.codeIn K cd49 "law" = true)
    (k49 : PySem.W.keepIn K (.ref f49) = true)
    (xL0 : K.lookup C0 = some (excClassObj nm0 q0 C0 N0 bs0 [.type "ValueError", .type "Exception", .type "BaseException", .type "object"] true sn0 sub0 ab0 col0 dd0 ma0 mb0 mc0 me0 mf0 "ValueError.__new__"))
    (sa0 : PySem.W.findIn K (.ref C0) "__setattr__" = some (some (.builtin "object.__setattr__")))
    (ga0 : PySem.W.findIn K (.ref C0) "__getattribute__" = some (some (.builtin "BaseException.__getattribute__")))
    (gg0 : PySem.W.findIn K (.ref C0) "__getattr__" = some none)
    (kC0 : PySem.W.keepIn K (.ref C0) = true)
    (eC0 : PySem.W.subIn K (.ref C0) (.type "BaseException") = some true)
    (tC0 : PySem.W.typeIn K (.ref C0) = some (.type "type"))
    (hC0 : PySem.W.hasDictIn K C0 = true)
    (sC0 : PySem.W.subIn K (.ref C0) (.ref C0) = some true)
    (xL1 : K.lookup C1 = some (excClassObj nm1 q1 C1 N1 bs1 [.ref C0, .type "ValueError", .type "Exception", .type "BaseException", .type "object"] true sn1 sub1 ab1 col1 dd1 ma1 mb1 mc1 me1 mf1 "ValueError.__new__"))
    (sa1 : PySem.W.findIn K (.ref C1) "__setattr__" = some (some (.builtin "object.__setattr__")))
    (ga1 : PySem.W.findIn K (.ref C1) "__getattribute__" = some (some (.builtin "BaseException.__getattribute__")))
    (gg1 : PySem.W.findIn K (.ref C1) "__getattr__" = some none)
    (kC1 : PySem.W.keepIn K (.ref C1) = true)
    (eC1 : PySem.W.subIn K (.ref C1) (.type "BaseException") = some true)
    (tC1 : PySem.W.typeIn K (.ref C1) = some (.type "type"))
    (hC1 : PySem.W.hasDictIn K C1 = true)
    (sC1 : PySem.W.subIn K (.ref C1) (.ref C1) = some true)
    (sC1_0 : PySem.W.subIn K (.ref C1) (.ref C0) = some true)
    (no1_value : PySem.W.findIn K (.ref C1) "value" = some none)
    (xL2 : K.lookup C2 = some (excClassObj nm2 q2 C2 N2 bs2 [.ref C0, .type "ValueError", .type "Exception", .type "BaseException", .type "object"] true sn2 sub2 ab2 col2 dd2 ma2 mb2 mc2 me2 mf2 "ValueError.__new__"))
    (sa2 : PySem.W.findIn K (.ref C2) "__setattr__" = some (some (.builtin "object.__setattr__")))
    (ga2 : PySem.W.findIn K (.ref C2) "__getattribute__" = some (some (.builtin "BaseException.__getattribute__")))
    (gg2 : PySem.W.findIn K (.ref C2) "__getattr__" = some none)
    (kC2 : PySem.W.keepIn K (.ref C2) = true)
    (eC2 : PySem.W.subIn K (.ref C2) (.type "BaseException") = some true)
    (tC2 : PySem.W.typeIn K (.ref C2) = some (.type "type"))
    (hC2 : PySem.W.hasDictIn K C2 = true)
    (sC2 : PySem.W.subIn K (.ref C2) (.ref C2) = some true)
    (sC2_0 : PySem.W.subIn K (.ref C2) (.ref C0) = some true)
    (no2_value : PySem.W.findIn K (.ref C2) "value" = some none)
    (xL3 : K.lookup C3 = some (excClassObj nm3 q3 C3 N3 bs3 [.ref C0, .type "ValueError", .type "Exception", .type "BaseException", .type "object"] true sn3 sub3 ab3 col3 dd3 ma3 mb3 mc3 me3 mf3 "ValueError.__new__"))
    (sa3 : PySem.W.findIn K (.ref C3) "__setattr__" = some (some (.builtin "object.__setattr__")))
    (ga3 : PySem.W.findIn K (.ref C3) "__getattribute__" = some (some (.builtin "BaseException.__getattribute__")))
    (gg3 : PySem.W.findIn K (.ref C3) "__getattr__" = some none)
    (kC3 : PySem.W.keepIn K (.ref C3) = true)
    (eC3 : PySem.W.subIn K (.ref C3) (.type "BaseException") = some true)
    (tC3 : PySem.W.typeIn K (.ref C3) = some (.type "type"))
    (hC3 : PySem.W.hasDictIn K C3 = true)
    (sC3 : PySem.W.subIn K (.ref C3) (.ref C3) = some true)
    (sC3_0 : PySem.W.subIn K (.ref C3) (.ref C0) = some true)
    (no3_value : PySem.W.findIn K (.ref C3) "value" = some none)
    (pg4 : PySem.W.plainGet K C4 Str.empty = true)
    (hd4 : PySem.W.hasDictIn K C4 = true)
    (po4 : PySem.W.plainOver K C4 = true)
    (sb4 : PySem.W.findIn K (.ref C4) "__setattr__" = some (some (.builtin "object.__setattr__")))
    (mk4 : PySem.W.makesIn K C4 = true)
    (kc4 : PySem.W.keepIn K (.ref C4) = true)
    (ha4 : PySem.W.findIn K (.ref C4) "__class__" = some (some (.builtin "object.__class__")))
    (hn4 : PySem.W.specialIn K (.builtin "object.__class__") "__get__" = some (some (.builtin "getset_descriptor.__get__")))
    (ht4 : PySem.W.takesIn K (.builtin "object.__class__") = some true)
    (hm4 : PySem.W.mroIn K C4 (.type "object") = some true)
    (kt4_int : PySem.W.kitOne K (.ref C4) (.type "int") = some false)
    (kt4_bool : PySem.W.kitOne K (.ref C4) (.type "bool") = some false)
    (kt4_tuple : PySem.W.kitOne K (.ref C4) (.type "tuple") = some false)
    (kt4_list : PySem.W.kitOne K (.ref C4) (.type "list") = some false)
    (kt4_str : PySem.W.kitOne K (.ref C4) (.type "str") = some false)
    (no4_size : PySem.W.findIn K (.ref C4) "size" = some none)
    (no4_ties : PySem.W.findIn K (.ref C4) "ties" = some none)
    (nb_abs : PySem.W.nsIn K mainGlobals "abs" = some none)
    (nb_len : PySem.W.nsIn K mainGlobals "len" = some none)
    (nb_range : PySem.W.nsIn K mainGlobals "range" = some none)
    (nb_int : PySem.W.nsIn K mainGlobals "int" = some none)
    (nb_str : PySem.W.nsIn K mainGlobals "str" = some none)
    (nb_isinstance : PySem.W.nsIn K mainGlobals "isinstance" = some none)
    (nb_tuple : PySem.W.nsIn K mainGlobals "tuple" = some none)
    (nb_list : PySem.W.nsIn K mainGlobals "list" = some none)
    (nb_sorted : PySem.W.nsIn K mainGlobals "sorted" = some none)
    (nb_min : PySem.W.nsIn K mainGlobals "min" = some none)
    (nb_max : PySem.W.nsIn K mainGlobals "max" = some none)
    (nb_all : PySem.W.nsIn K mainGlobals "all" = some none)
    (nb_any : PySem.W.nsIn K mainGlobals "any" = some none)
    (nb_zip : PySem.W.nsIn K mainGlobals "zip" = some none)
    (nb_bool : PySem.W.nsIn K mainGlobals "bool" = some none)
    (nb_ValueError : PySem.W.nsIn K mainGlobals "ValueError" = some none)
    : ∃ A : Ad, A.law = fa ∧ Txt K mg A := by
  have e := hfa.symm.trans (PySem.W.mg_of X G a49)
  cases e
  refine ⟨{ is_integer := f1, fd_is_integer := PySem.W.fnOf "is_integer" "is_integer" (defArgs s_is_integer) (defBody s_is_integer) (defScope s_is_integer) .none kV1 dc1 pm1 an1 cd1 ct1, is_number := f2, fd_is_number := PySem.W.fnOf "is_number" "is_number" (defArgs s_is_number) (defBody s_is_number) (defScope s_is_number) .none kV2 dc2 pm2 an2 cd2 ct2, is_number_below := f3, fd_is_number_below := PySem.W.fnOf "is_number_below" "is_number_below" (defArgs s_is_number_below) (defBody s_is_number_below) (defScope s_is_number_below) .none kV3 dc3 pm3 an3 cd3 ct3, is_sequence := f4, fd_is_sequence := PySem.W.fnOf "is_sequence" "is_sequence" (defArgs s_is_sequence) (defBody s_is_sequence) (defScope s_is_sequence) .none kV4 dc4 pm4 an4 cd4 ct4, is_pair := f5, fd_is_pair := PySem.W.fnOf "is_pair" "is_pair" (defArgs s_is_pair) (defBody s_is_pair) (defScope s_is_pair) .none kV5 dc5 pm5 an5 cd5 ct5, are_integers := f6, fd_are_integers := PySem.W.fnOf "are_integers" "are_integers" (defArgs s_are_integers) (defBody s_are_integers) (defScope s_are_integers) .none kV6 dc6 pm6 an6 cd6 ct6, is_rising := f7, fd_is_rising := PySem.W.fnOf "is_rising" "is_rising" (defArgs s_is_rising) (defBody s_is_rising) (defScope s_is_rising) .none kV7 dc7 pm7 an7 cd7 ct7, is_lot_below := f8, fd_is_lot_below := PySem.W.fnOf "is_lot_below" "is_lot_below" (defArgs s_is_lot_below) (defBody s_is_lot_below) (defScope s_is_lot_below) .none kV8 dc8 pm8 an8 cd8 ct8, frozen := f9, fd_frozen := PySem.W.fnOf "frozen" "frozen" (defArgs s_frozen) (defBody s_frozen) (defScope s_frozen) .none kV9 dc9 pm9 an9 cd9 ct9, arrow_of := f10, fd_arrow_of := PySem.W.fnOf "arrow_of" "arrow_of" (defArgs s_arrow_of) (defBody s_arrow_of) (defScope s_arrow_of) .none kV10 dc10 pm10 an10 cd10 ct10, arrows_of := f11, fd_arrows_of := PySem.W.fnOf "arrows_of" "arrows_of" (defArgs s_arrows_of) (defBody s_arrows_of) (defScope s_arrows_of) .none kV11 dc11 pm11 an11 cd11 ct11, nothing_joined := f12, fd_nothing_joined := PySem.W.fnOf "nothing_joined" "nothing_joined" (defArgs s_nothing_joined) (defBody s_nothing_joined) (defScope s_nothing_joined) .none kV12 dc12 pm12 an12 cd12 ct12, is_reached := f13, fd_is_reached := PySem.W.fnOf "is_reached" "is_reached" (defArgs s_is_reached) (defBody s_is_reached) (defScope s_is_reached) .none kV13 dc13 pm13 an13 cd13 ct13, joined := f14, fd_joined := PySem.W.fnOf "joined" "joined" (defArgs s_joined) (defBody s_joined) (defScope s_joined) .none kV14 dc14 pm14 an14 cd14 ct14, reach_along := f15, fd_reach_along := PySem.W.fnOf "reach_along" "reach_along" (defArgs s_reach_along) (defBody s_reach_along) (defScope s_reach_along) .none kV15 dc15 pm15 an15 cd15 ct15, has_ring := f16, fd_has_ring := PySem.W.fnOf "has_ring" "has_ring" (defArgs s_has_ring) (defBody s_has_ring) (defScope s_has_ring) .none kV16 dc16 pm16 an16 cd16 ct16, InvalidWeb__init := f17, fd_InvalidWeb__init := PySem.W.fnOf "__init__" "InvalidWeb.__init__" (defArgs s_InvalidWeb__init) (defBody s_InvalidWeb__init) (defScope s_InvalidWeb__init) .none kV17 dc17 pm17 an17 cd17 ct17, InvalidLot__init := f18, fd_InvalidLot__init := PySem.W.fnOf "__init__" "InvalidLot.__init__" (defArgs s_InvalidLot__init) (defBody s_InvalidLot__init) (defScope s_InvalidLot__init) .none kV18 dc18 pm18 an18 cd18 ct18, InvalidArrangement__init := f19, fd_InvalidArrangement__init := PySem.W.fnOf "__init__" "InvalidArrangement.__init__" (defArgs s_InvalidArrangement__init) (defBody s_InvalidArrangement__init) (defScope s_InvalidArrangement__init) .none kV19 dc19 pm19 an19 cd19 ct19, root_of := f20, fd_root_of := PySem.W.fnOf "root_of" "root_of" (defArgs s_root_of) (defBody s_root_of) (defScope s_root_of) .none kV20 dc20 pm20 an20 cd20 ct20, join := f21, fd_join := PySem.W.fnOf "join" "join" (defArgs s_join) (defBody s_join) (defScope s_join) .none kV21 dc21 pm21 an21 cd21 ct21, join_along := f22, fd_join_along := PySem.W.fnOf "join_along" "join_along" (defArgs s_join_along) (defBody s_join_along) (defScope s_join_along) .none kV22 dc22 pm22 an22 cd22 ct22, rank_of_ties := f23, fd_rank_of_ties := PySem.W.fnOf "rank_of_ties" "rank_of_ties" (defArgs s_rank_of_ties) (defBody s_rank_of_ties) (defScope s_rank_of_ties) .none kV23 dc23 pm23 an23 cd23 ct23, roots_by_ties := f24, fd_roots_by_ties := PySem.W.fnOf "roots_by_ties" "roots_by_ties" (defArgs s_roots_by_ties) (defBody s_roots_by_ties) (defScope s_roots_by_ties) .none kV24 dc24 pm24 an24 cd24 ct24, piece_lots := f25, fd_piece_lots := PySem.W.fnOf "piece_lots" "piece_lots" (defArgs s_piece_lots) (defBody s_piece_lots) (defScope s_piece_lots) .none kV25 dc25 pm25 an25 cd25 ct25, is_direction := f26, fd_is_direction := PySem.W.fnOf "is_direction" "is_direction" (defArgs s_is_direction) (defBody s_is_direction) (defScope s_is_direction) .none kV26 dc26 pm26 an26 cd26 ct26, check_direction := f27, fd_check_direction := PySem.W.fnOf "check_direction" "check_direction" (defArgs s_check_direction) (defBody s_check_direction) (defScope s_check_direction) .none kV27 dc27 pm27 an27 cd27 ct27, is_ringless := f28, fd_is_ringless := PySem.W.fnOf "is_ringless" "is_ringless" (defArgs s_is_ringless) (defBody s_is_ringless) (defScope s_is_ringless) .none kV28 dc28 pm28 an28 cd28 ct28, is_round := f29, fd_is_round := PySem.W.fnOf "is_round" "is_round" (defArgs s_is_round) (defBody s_is_round) (defScope s_is_round) .none kV29 dc29 pm29 an29 cd29 ct29, arrivals := f30, fd_arrivals := PySem.W.fnOf "arrivals" "arrivals" (defArgs s_arrivals) (defBody s_arrivals) (defScope s_arrivals) .none kV30 dc30 pm30 an30 cd30 ct30, is_tie := f31, fd_is_tie := PySem.W.fnOf "is_tie" "is_tie" (defArgs s_is_tie) (defBody s_is_tie) (defScope s_is_tie) .none kV31 dc31 pm31 an31 cd31 ct31, is_web := f32, fd_is_web := PySem.W.fnOf "is_web" "is_web" (defArgs s_is_web) (defBody s_is_web) (defScope s_is_web) .none kV32 dc32 pm32 an32 cd32 ct32, Web__init := f33, fd_Web__init := PySem.W.fnOf "__init__" "Web.__init__" (defArgs s_Web__init) (defBody s_Web__init) (defScope s_Web__init) .none kV33 dc33 pm33 an33 cd33 ct33, Web__eq := f34, fd_Web__eq := PySem.W.fnOf "__eq__" "Web.__eq__" (defArgs s_Web__eq) (defBody s_Web__eq) (defScope s_Web__eq) .none kV34 dc34 pm34 an34 cd34 ct34, Web__pieces := f35, fd_Web__pieces := PySem.W.fnOf "pieces" "Web.pieces" (defArgs s_Web__pieces) (defBody s_Web__pieces) (defScope s_Web__pieces) .none kV35 dc35 pm35 an35 cd35 ct35, Web__rank := f36, fd_Web__rank := PySem.W.fnOf "rank" "Web.rank" (defArgs s_Web__rank) (defBody s_Web__rank) (defScope s_Web__rank) .none kV36 dc36 pm36 an36 cd36 ct36, _law_box := f37, fd__law_box := PySem.W.fnOf "_law_box" "_law_box" (defArgs s__law_box) (defBody s__law_box) (defScope s__law_box) .none kV37 dc37 pm37 an37 cd37 ct37, _law_draw := f38, fd__law_draw := PySem.W.fnOf "_law_draw" "_law_draw" (defArgs s__law_draw) (defBody s__law_draw) (defScope s__law_draw) .none kV38 dc38 pm38 an38 cd38 ct38, _law_mixed := f39, fd__law_mixed := PySem.W.fnOf "_law_mixed" "_law_mixed" (defArgs s__law_mixed) (defBody s__law_mixed) (defScope s__law_mixed) .none kV39 dc39 pm39 an39 cd39 ct39, _law_same := f40, fd__law_same := PySem.W.fnOf "_law_same" "_law_same" (defArgs s__law_same) (defBody s__law_same) (defScope s__law_same) .none kV40 dc40 pm40 an40 cd40 ct40, _law_web := f41, fd__law_web := PySem.W.fnOf "_law_web" "_law_web" (defArgs s__law_web) (defBody s__law_web) (defScope s__law_web) .none kV41 dc41 pm41 an41 cd41 ct41, _law_looped := f42, fd__law_looped := PySem.W.fnOf "_law_looped" "_law_looped" (defArgs s__law_looped) (defBody s__law_looped) (defScope s__law_looped) .none kV42 dc42 pm42 an42 cd42 ct42, _law_told := f43, fd__law_told := PySem.W.fnOf "_law_told" "_law_told" (defArgs s__law_told) (defBody s__law_told) (defScope s__law_told) .none kV43 dc43 pm43 an43 cd43 ct43, _law_on_rings := f44, fd__law_on_rings := PySem.W.fnOf "_law_on_rings" "_law_on_rings" (defArgs s__law_on_rings) (defBody s__law_on_rings) (defScope s__law_on_rings) .none kV44 dc44 pm44 an44 cd44 ct44, _law_drawn := f45, fd__law_drawn := PySem.W.fnOf "_law_drawn" "_law_drawn" (defArgs s__law_drawn) (defBody s__law_drawn) (defScope s__law_drawn) .none kV45 dc45 pm45 an45 cd45 ct45, _law_asked := f46, fd__law_asked := PySem.W.fnOf "_law_asked" "_law_asked" (defArgs s__law_asked) (defBody s__law_asked) (defScope s__law_asked) .none kV46 dc46 pm46 an46 cd46 ct46, _law_spoilt := f47, fd__law_spoilt := PySem.W.fnOf "_law_spoilt" "_law_spoilt" (defArgs s__law_spoilt) (defBody s__law_spoilt) (defScope s__law_spoilt) .none kV47 dc47 pm47 an47 cd47 ct47, _law_all := f48, fd__law_all := PySem.W.fnOf "_law_all" "_law_all" (defArgs s__law_all) (defBody s__law_all) (defScope s__law_all) .none kV48 dc48 pm48 an48 cd48 ct48, law := fa, fd_law := PySem.W.fnOf "law" "law" (defArgs s_law) (defBody s_law) (defScope s_law) .none kV49 dc49 pm49 an49 cd49 ct49, c_CountError := C0, c_InvalidWeb := C1, c_InvalidLot := C2, c_InvalidArrangement := C3, c_Web := C4 }, rfl, ?_⟩
  exact {
    F_is_integer := fun_mk (st := s_is_integer) l1 c1 k1
    m_is_integer := PySem.W.mg_of X G a1
    F_is_number := fun_mk (st := s_is_number) l2 c2 k2
    m_is_number := PySem.W.mg_of X G a2
    F_is_number_below := fun_mk (st := s_is_number_below) l3 c3 k3
    m_is_number_below := PySem.W.mg_of X G a3
    F_is_sequence := fun_mk (st := s_is_sequence) l4 c4 k4
    m_is_sequence := PySem.W.mg_of X G a4
    F_is_pair := fun_mk (st := s_is_pair) l5 c5 k5
    m_is_pair := PySem.W.mg_of X G a5
    F_are_integers := fun_mk (st := s_are_integers) l6 c6 k6
    m_are_integers := PySem.W.mg_of X G a6
    F_is_rising := fun_mk (st := s_is_rising) l7 c7 k7
    m_is_rising := PySem.W.mg_of X G a7
    F_is_lot_below := fun_mk (st := s_is_lot_below) l8 c8 k8
    m_is_lot_below := PySem.W.mg_of X G a8
    F_frozen := fun_mk (st := s_frozen) l9 c9 k9
    m_frozen := PySem.W.mg_of X G a9
    F_arrow_of := fun_mk (st := s_arrow_of) l10 c10 k10
    m_arrow_of := PySem.W.mg_of X G a10
    F_arrows_of := fun_mk (st := s_arrows_of) l11 c11 k11
    m_arrows_of := PySem.W.mg_of X G a11
    F_nothing_joined := fun_mk (st := s_nothing_joined) l12 c12 k12
    m_nothing_joined := PySem.W.mg_of X G a12
    F_is_reached := fun_mk (st := s_is_reached) l13 c13 k13
    m_is_reached := PySem.W.mg_of X G a13
    F_joined := fun_mk (st := s_joined) l14 c14 k14
    m_joined := PySem.W.mg_of X G a14
    F_reach_along := fun_mk (st := s_reach_along) l15 c15 k15
    m_reach_along := PySem.W.mg_of X G a15
    F_has_ring := fun_mk (st := s_has_ring) l16 c16 k16
    m_has_ring := PySem.W.mg_of X G a16
    F_InvalidWeb__init := fun_mk (st := s_InvalidWeb__init) l17 c17 k17
    F_InvalidLot__init := fun_mk (st := s_InvalidLot__init) l18 c18 k18
    F_InvalidArrangement__init := fun_mk (st := s_InvalidArrangement__init) l19 c19 k19
    F_root_of := fun_mk (st := s_root_of) l20 c20 k20
    m_root_of := PySem.W.mg_of X G a20
    F_join := fun_mk (st := s_join) l21 c21 k21
    m_join := PySem.W.mg_of X G a21
    F_join_along := fun_mk (st := s_join_along) l22 c22 k22
    m_join_along := PySem.W.mg_of X G a22
    F_rank_of_ties := fun_mk (st := s_rank_of_ties) l23 c23 k23
    m_rank_of_ties := PySem.W.mg_of X G a23
    F_roots_by_ties := fun_mk (st := s_roots_by_ties) l24 c24 k24
    m_roots_by_ties := PySem.W.mg_of X G a24
    F_piece_lots := fun_mk (st := s_piece_lots) l25 c25 k25
    m_piece_lots := PySem.W.mg_of X G a25
    F_is_direction := fun_mk (st := s_is_direction) l26 c26 k26
    m_is_direction := PySem.W.mg_of X G a26
    F_check_direction := fun_mk (st := s_check_direction) l27 c27 k27
    m_check_direction := PySem.W.mg_of X G a27
    F_is_ringless := fun_mk (st := s_is_ringless) l28 c28 k28
    m_is_ringless := PySem.W.mg_of X G a28
    F_is_round := fun_mk (st := s_is_round) l29 c29 k29
    m_is_round := PySem.W.mg_of X G a29
    F_arrivals := fun_mk (st := s_arrivals) l30 c30 k30
    m_arrivals := PySem.W.mg_of X G a30
    F_is_tie := fun_mk (st := s_is_tie) l31 c31 k31
    m_is_tie := PySem.W.mg_of X G a31
    F_is_web := fun_mk (st := s_is_web) l32 c32 k32
    m_is_web := PySem.W.mg_of X G a32
    F_Web__init := fun_mk (st := s_Web__init) l33 c33 k33
    F_Web__eq := fun_mk (st := s_Web__eq) l34 c34 k34
    F_Web__pieces := fun_mk (st := s_Web__pieces) l35 c35 k35
    F_Web__rank := fun_mk (st := s_Web__rank) l36 c36 k36
    F__law_box := fun_mk (st := s__law_box) l37 c37 k37
    m__law_box := PySem.W.mg_of X G a37
    F__law_draw := fun_mk (st := s__law_draw) l38 c38 k38
    m__law_draw := PySem.W.mg_of X G a38
    F__law_mixed := fun_mk (st := s__law_mixed) l39 c39 k39
    m__law_mixed := PySem.W.mg_of X G a39
    F__law_same := fun_mk (st := s__law_same) l40 c40 k40
    m__law_same := PySem.W.mg_of X G a40
    F__law_web := fun_mk (st := s__law_web) l41 c41 k41
    m__law_web := PySem.W.mg_of X G a41
    F__law_looped := fun_mk (st := s__law_looped) l42 c42 k42
    m__law_looped := PySem.W.mg_of X G a42
    F__law_told := fun_mk (st := s__law_told) l43 c43 k43
    m__law_told := PySem.W.mg_of X G a43
    F__law_on_rings := fun_mk (st := s__law_on_rings) l44 c44 k44
    m__law_on_rings := PySem.W.mg_of X G a44
    F__law_drawn := fun_mk (st := s__law_drawn) l45 c45 k45
    m__law_drawn := PySem.W.mg_of X G a45
    F__law_asked := fun_mk (st := s__law_asked) l46 c46 k46
    m__law_asked := PySem.W.mg_of X G a46
    F__law_spoilt := fun_mk (st := s__law_spoilt) l47 c47 k47
    m__law_spoilt := PySem.W.mg_of X G a47
    F__law_all := fun_mk (st := s__law_all) l48 c48 k48
    m__law_all := PySem.W.mg_of X G a48
    F_law := fun_mk (st := s_law) l49 c49 k49
    m_law := PySem.W.mg_of X G a49
    m_CountError := PySem.W.mg_of X G aC0
    te_CountError := PySem.W.exm_ref eC0 hC0 tC0 sC0
    m_InvalidWeb := PySem.W.mg_of X G aC1
    te_InvalidWeb := PySem.W.exm_ref eC1 hC1 tC1 sC1
    te_InvalidWeb_CountError := PySem.W.exm_ref eC0 hC0 tC0 sC1_0
    ox_InvalidWeb := ⟨⟨nm1, q1, N1, bs1, _, sn1, sub1, ab1, col1, dd1, ma1, mb1, mc1, me1, mf1, xL1, by first | rfl | decide +kernel⟩, sa1, eC1, tC1, kC1⟩
    xf_InvalidWeb := ⟨ga1, gg1, eC1, hC1⟩
    i_InvalidWeb := a17
    t_InvalidWeb := t17
    no_InvalidWeb_value := no1_value
    m_InvalidLot := PySem.W.mg_of X G aC2
    te_InvalidLot := PySem.W.exm_ref eC2 hC2 tC2 sC2
    te_InvalidLot_CountError := PySem.W.exm_ref eC0 hC0 tC0 sC2_0
    ox_InvalidLot := ⟨⟨nm2, q2, N2, bs2, _, sn2, sub2, ab2, col2, dd2, ma2, mb2, mc2, me2, mf2, xL2, by first | rfl | decide +kernel⟩, sa2, eC2, tC2, kC2⟩
    xf_InvalidLot := ⟨ga2, gg2, eC2, hC2⟩
    i_InvalidLot := a18
    t_InvalidLot := t18
    no_InvalidLot_value := no2_value
    m_InvalidArrangement := PySem.W.mg_of X G aC3
    te_InvalidArrangement := PySem.W.exm_ref eC3 hC3 tC3 sC3
    te_InvalidArrangement_CountError := PySem.W.exm_ref eC0 hC0 tC0 sC3_0
    ox_InvalidArrangement := ⟨⟨nm3, q3, N3, bs3, _, sn3, sub3, ab3, col3, dd3, ma3, mb3, mc3, me3, mf3, xL3, by first | rfl | decide +kernel⟩, sa3, eC3, tC3, kC3⟩
    xf_InvalidArrangement := ⟨ga3, gg3, eC3, hC3⟩
    i_InvalidArrangement := a19
    t_InvalidArrangement := t19
    no_InvalidArrangement_value := no3_value
    m_Web := PySem.W.mg_of X G aC4
    cl_Web := ⟨pg4, hd4, po4, sb4⟩
    ot_Web := ⟨⟨pg4, hd4, po4, sb4⟩, ha4, hn4, ht4, hm4⟩
    kt_Web_int := kt4_int
    kt_Web_bool := kt4_bool
    kt_Web_tuple := kt4_tuple
    kt_Web_list := kt4_list
    kt_Web_str := kt4_str
    mk_Web := ⟨mk4, a33, i33, kc4⟩
    me_Web__eq := ⟨a34, i34, k34⟩
    me_Web__pieces := ⟨a35, i35, k35⟩
    me_Web__rank := ⟨a36, i36, k36⟩
    no_Web_size := no4_size
    no_Web_ties := no4_ties
    b_abs := PySem.W.mg_none_of X G nb_abs
    b_len := PySem.W.mg_none_of X G nb_len
    b_range := PySem.W.mg_none_of X G nb_range
    b_int := PySem.W.mg_none_of X G nb_int
    b_str := PySem.W.mg_none_of X G nb_str
    b_isinstance := PySem.W.mg_none_of X G nb_isinstance
    b_tuple := PySem.W.mg_none_of X G nb_tuple
    b_list := PySem.W.mg_none_of X G nb_list
    b_sorted := PySem.W.mg_none_of X G nb_sorted
    b_min := PySem.W.mg_none_of X G nb_min
    b_max := PySem.W.mg_none_of X G nb_max
    b_all := PySem.W.mg_none_of X G nb_all
    b_any := PySem.W.mg_none_of X G nb_any
    b_zip := PySem.W.mg_none_of X G nb_zip
    b_bool := PySem.W.mg_none_of X G nb_bool
    b_ValueError := PySem.W.mg_none_of X G nb_ValueError }
theorem b_is_integer {K : PySem.W.Frag} {mg : Str → Option Value} {A : Ad} (T : Txt K mg A) : Binds K A.fd_is_integer ["value"] [] := T.F_is_integer.binds (ps := ["value"]) fun _ _ _ _ _ _ us hl => match us, hl with | [_], _ => rfl
theorem b_is_number {K : PySem.W.Frag} {mg : Str → Option Value} {A : Ad} (T : Txt K mg A) : Binds K A.fd_is_number ["value"] [] := T.F_is_number.binds (ps := ["value"]) fun _ _ _ _ _ _ us hl => match us, hl with | [_], _ => rfl
theorem b_is_number_below {K : PySem.W.Frag} {mg : Str → Option Value} {A : Ad} (T : Txt K mg A) : Binds K A.fd_is_number_below ["value", "limit"] [] := T.F_is_number_below.binds (ps := ["value", "limit"]) fun _ _ _ _ _ _ us hl => match us, hl with | [_, _], _ => rfl
theorem b_is_sequence {K : PySem.W.Frag} {mg : Str → Option Value} {A : Ad} (T : Txt K mg A) : Binds K A.fd_is_sequence ["value"] [] := T.F_is_sequence.binds (ps := ["value"]) fun _ _ _ _ _ _ us hl => match us, hl with | [_], _ => rfl
theorem b_is_pair {K : PySem.W.Frag} {mg : Str → Option Value} {A : Ad} (T : Txt K mg A) : Binds K A.fd_is_pair ["value"] [] := T.F_is_pair.binds (ps := ["value"]) fun _ _ _ _ _ _ us hl => match us, hl with | [_], _ => rfl
theorem b_are_integers {K : PySem.W.Frag} {mg : Str → Option Value} {A : Ad} (T : Txt K mg A) : Binds K A.fd_are_integers ["value"] [] := T.F_are_integers.binds (ps := ["value"]) fun _ _ _ _ _ _ us hl => match us, hl with | [_], _ => rfl
theorem b_is_rising {K : PySem.W.Frag} {mg : Str → Option Value} {A : Ad} (T : Txt K mg A) : Binds K A.fd_is_rising ["value"] [] := T.F_is_rising.binds (ps := ["value"]) fun _ _ _ _ _ _ us hl => match us, hl with | [_], _ => rfl
theorem b_is_lot_below {K : PySem.W.Frag} {mg : Str → Option Value} {A : Ad} (T : Txt K mg A) : Binds K A.fd_is_lot_below ["value", "limit"] [] := T.F_is_lot_below.binds (ps := ["value", "limit"]) fun _ _ _ _ _ _ us hl => match us, hl with | [_, _], _ => rfl
theorem b_frozen {K : PySem.W.Frag} {mg : Str → Option Value} {A : Ad} (T : Txt K mg A) : Binds K A.fd_frozen ["value"] [] := T.F_frozen.binds (ps := ["value"]) fun _ _ _ _ _ _ us hl => match us, hl with | [_], _ => rfl
theorem b_arrow_of {K : PySem.W.Frag} {mg : Str → Option Value} {A : Ad} (T : Txt K mg A) : Binds K A.fd_arrow_of ["tie", "way"] [] := T.F_arrow_of.binds (ps := ["tie", "way"]) fun _ _ _ _ _ _ us hl => match us, hl with | [_, _], _ => rfl
theorem b_arrows_of {K : PySem.W.Frag} {mg : Str → Option Value} {A : Ad} (T : Txt K mg A) : Binds K A.fd_arrows_of ["ties", "direction"] [] := T.F_arrows_of.binds (ps := ["ties", "direction"]) fun _ _ _ _ _ _ us hl => match us, hl with | [_, _], _ => rfl
theorem b_nothing_joined {K : PySem.W.Frag} {mg : Str → Option Value} {A : Ad} (T : Txt K mg A) : Binds K A.fd_nothing_joined ["size"] [] := T.F_nothing_joined.binds (ps := ["size"]) fun _ _ _ _ _ _ us hl => match us, hl with | [_], _ => rfl
theorem b_is_reached {K : PySem.W.Frag} {mg : Str → Option Value} {A : Ad} (T : Txt K mg A) : Binds K A.fd_is_reached ["reach", "a", "b"] [] := T.F_is_reached.binds (ps := ["reach", "a", "b"]) fun _ _ _ _ _ _ us hl => match us, hl with | [_, _, _], _ => rfl
theorem b_joined {K : PySem.W.Frag} {mg : Str → Option Value} {A : Ad} (T : Txt K mg A) : Binds K A.fd_joined ["reach", "a", "b"] [] := T.F_joined.binds (ps := ["reach", "a", "b"]) fun _ _ _ _ _ _ us hl => match us, hl with | [_, _, _], _ => rfl
theorem b_reach_along {K : PySem.W.Frag} {mg : Str → Option Value} {A : Ad} (T : Txt K mg A) : Binds K A.fd_reach_along ["size", "arrows"] [] := T.F_reach_along.binds (ps := ["size", "arrows"]) fun _ _ _ _ _ _ us hl => match us, hl with | [_, _], _ => rfl
theorem b_has_ring {K : PySem.W.Frag} {mg : Str → Option Value} {A : Ad} (T : Txt K mg A) : Binds K A.fd_has_ring ["reach", "arrows"] [] := T.F_has_ring.binds (ps := ["reach", "arrows"]) fun _ _ _ _ _ _ us hl => match us, hl with | [_, _], _ => rfl
theorem b_InvalidWeb__init {K : PySem.W.Frag} {mg : Str → Option Value} {A : Ad} (T : Txt K mg A) : Binds K A.fd_InvalidWeb__init ["self", "value"] [] := T.F_InvalidWeb__init.binds (ps := ["self", "value"]) fun _ _ _ _ _ _ us hl => match us, hl with | [_, _], _ => rfl
theorem b_InvalidLot__init {K : PySem.W.Frag} {mg : Str → Option Value} {A : Ad} (T : Txt K mg A) : Binds K A.fd_InvalidLot__init ["self", "value"] [] := T.F_InvalidLot__init.binds (ps := ["self", "value"]) fun _ _ _ _ _ _ us hl => match us, hl with | [_, _], _ => rfl
theorem b_InvalidArrangement__init {K : PySem.W.Frag} {mg : Str → Option Value} {A : Ad} (T : Txt K mg A) : Binds K A.fd_InvalidArrangement__init ["self", "value"] [] := T.F_InvalidArrangement__init.binds (ps := ["self", "value"]) fun _ _ _ _ _ _ us hl => match us, hl with | [_, _], _ => rfl
theorem b_root_of {K : PySem.W.Frag} {mg : Str → Option Value} {A : Ad} (T : Txt K mg A) : Binds K A.fd_root_of ["parents", "node"] [] := T.F_root_of.binds (ps := ["parents", "node"]) fun _ _ _ _ _ _ us hl => match us, hl with | [_, _], _ => rfl
theorem b_join {K : PySem.W.Frag} {mg : Str → Option Value} {A : Ad} (T : Txt K mg A) : Binds K A.fd_join ["parents", "first", "second"] [] := T.F_join.binds (ps := ["parents", "first", "second"]) fun _ _ _ _ _ _ us hl => match us, hl with | [_, _, _], _ => rfl
theorem b_join_along {K : PySem.W.Frag} {mg : Str → Option Value} {A : Ad} (T : Txt K mg A) : Binds K A.fd_join_along ["parents", "ties"] [] := T.F_join_along.binds (ps := ["parents", "ties"]) fun _ _ _ _ _ _ us hl => match us, hl with | [_, _], _ => rfl
theorem b_rank_of_ties {K : PySem.W.Frag} {mg : Str → Option Value} {A : Ad} (T : Txt K mg A) : Binds K A.fd_rank_of_ties ["size", "ties"] [] := T.F_rank_of_ties.binds (ps := ["size", "ties"]) fun _ _ _ _ _ _ us hl => match us, hl with | [_, _], _ => rfl
theorem b_roots_by_ties {K : PySem.W.Frag} {mg : Str → Option Value} {A : Ad} (T : Txt K mg A) : Binds K A.fd_roots_by_ties ["size", "ties"] [] := T.F_roots_by_ties.binds (ps := ["size", "ties"]) fun _ _ _ _ _ _ us hl => match us, hl with | [_, _], _ => rfl
theorem b_piece_lots {K : PySem.W.Frag} {mg : Str → Option Value} {A : Ad} (T : Txt K mg A) : Binds K A.fd_piece_lots ["size", "ties"] [] := T.F_piece_lots.binds (ps := ["size", "ties"]) fun _ _ _ _ _ _ us hl => match us, hl with | [_, _], _ => rfl
theorem b_is_direction {K : PySem.W.Frag} {mg : Str → Option Value} {A : Ad} (T : Txt K mg A) : Binds K A.fd_is_direction ["web", "value"] [] := T.F_is_direction.binds (ps := ["web", "value"]) fun _ _ _ _ _ _ us hl => match us, hl with | [_, _], _ => rfl
theorem b_check_direction {K : PySem.W.Frag} {mg : Str → Option Value} {A : Ad} (T : Txt K mg A) : Binds K A.fd_check_direction ["web", "direction"] [] := T.F_check_direction.binds (ps := ["web", "direction"]) fun _ _ _ _ _ _ us hl => match us, hl with | [_, _], _ => rfl
theorem b_is_ringless {K : PySem.W.Frag} {mg : Str → Option Value} {A : Ad} (T : Txt K mg A) : Binds K A.fd_is_ringless ["web", "direction"] [] := T.F_is_ringless.binds (ps := ["web", "direction"]) fun _ _ _ _ _ _ us hl => match us, hl with | [_, _], _ => rfl
theorem b_is_round {K : PySem.W.Frag} {mg : Str → Option Value} {A : Ad} (T : Txt K mg A) : Binds K A.fd_is_round ["web", "direction"] [] := T.F_is_round.binds (ps := ["web", "direction"]) fun _ _ _ _ _ _ us hl => match us, hl with | [_, _], _ => rfl
theorem b_arrivals {K : PySem.W.Frag} {mg : Str → Option Value} {A : Ad} (T : Txt K mg A) : Binds K A.fd_arrivals ["web", "direction"] [] := T.F_arrivals.binds (ps := ["web", "direction"]) fun _ _ _ _ _ _ us hl => match us, hl with | [_, _], _ => rfl
theorem b_is_tie {K : PySem.W.Frag} {mg : Str → Option Value} {A : Ad} (T : Txt K mg A) : Binds K A.fd_is_tie ["value", "size"] [] := T.F_is_tie.binds (ps := ["value", "size"]) fun _ _ _ _ _ _ us hl => match us, hl with | [_, _], _ => rfl
theorem b_is_web {K : PySem.W.Frag} {mg : Str → Option Value} {A : Ad} (T : Txt K mg A) : Binds K A.fd_is_web ["size", "ties"] [] := T.F_is_web.binds (ps := ["size", "ties"]) fun _ _ _ _ _ _ us hl => match us, hl with | [_, _], _ => rfl
theorem b_Web__init {K : PySem.W.Frag} {mg : Str → Option Value} {A : Ad} (T : Txt K mg A) : Binds K A.fd_Web__init ["self", "size", "ties"] [] := T.F_Web__init.binds (ps := ["self", "size", "ties"]) fun _ _ _ _ _ _ us hl => match us, hl with | [_, _, _], _ => rfl
theorem b_Web__eq {K : PySem.W.Frag} {mg : Str → Option Value} {A : Ad} (T : Txt K mg A) : Binds K A.fd_Web__eq ["self", "other"] [] := T.F_Web__eq.binds (ps := ["self", "other"]) fun _ _ _ _ _ _ us hl => match us, hl with | [_, _], _ => rfl
theorem b_Web__pieces {K : PySem.W.Frag} {mg : Str → Option Value} {A : Ad} (T : Txt K mg A) : Binds K A.fd_Web__pieces ["self"] [] := T.F_Web__pieces.binds (ps := ["self"]) fun _ _ _ _ _ _ us hl => match us, hl with | [_], _ => rfl
theorem b_Web__rank {K : PySem.W.Frag} {mg : Str → Option Value} {A : Ad} (T : Txt K mg A) : Binds K A.fd_Web__rank ["self", "lot"] [] := T.F_Web__rank.binds (ps := ["self", "lot"]) fun _ _ _ _ _ _ us hl => match us, hl with | [_, _], _ => rfl
theorem b__law_box {K : PySem.W.Frag} {mg : Str → Option Value} {A : Ad} (T : Txt K mg A) : Binds K A.fd__law_box ["script"] [] := T.F__law_box.binds (ps := ["script"]) fun _ _ _ _ _ _ us hl => match us, hl with | [_], _ => rfl
theorem b__law_draw {K : PySem.W.Frag} {mg : Str → Option Value} {A : Ad} (T : Txt K mg A) : Binds K A.fd__law_draw ["box", "many"] [] := T.F__law_draw.binds (ps := ["box", "many"]) fun _ _ _ _ _ _ us hl => match us, hl with | [_, _], _ => rfl
theorem b__law_mixed {K : PySem.W.Frag} {mg : Str → Option Value} {A : Ad} (T : Txt K mg A) : Binds K A.fd__law_mixed ["box", "rows"] [] := T.F__law_mixed.binds (ps := ["box", "rows"]) fun _ _ _ _ _ _ us hl => match us, hl with | [_, _], _ => rfl
theorem b__law_same {K : PySem.W.Frag} {mg : Str → Option Value} {A : Ad} (T : Txt K mg A) : Binds K A.fd__law_same ["came", "due"] [] := T.F__law_same.binds (ps := ["came", "due"]) fun _ _ _ _ _ _ us hl => match us, hl with | [_, _], _ => rfl
theorem b__law_web {K : PySem.W.Frag} {mg : Str → Option Value} {A : Ad} (T : Txt K mg A) : Binds K A.fd__law_web ["box", "sizes", "most"] [] := T.F__law_web.binds (ps := ["box", "sizes", "most"]) fun _ _ _ _ _ _ us hl => match us, hl with | [_, _, _], _ => rfl
theorem b__law_looped {K : PySem.W.Frag} {mg : Str → Option Value} {A : Ad} (T : Txt K mg A) : Binds K A.fd__law_looped ["box", "size", "ties"] [] := T.F__law_looped.binds (ps := ["box", "size", "ties"]) fun _ _ _ _ _ _ us hl => match us, hl with | [_, _, _], _ => rfl
theorem b__law_told {K : PySem.W.Frag} {mg : Str → Option Value} {A : Ad} (T : Txt K mg A) : Binds K A.fd__law_told ["box", "pairs"] [] := T.F__law_told.binds (ps := ["box", "pairs"]) fun _ _ _ _ _ _ us hl => match us, hl with | [_, _], _ => rfl
theorem b__law_on_rings {K : PySem.W.Frag} {mg : Str → Option Value} {A : Ad} (T : Txt K mg A) : Binds K A.fd__law_on_rings ["size", "arrows"] [] := T.F__law_on_rings.binds (ps := ["size", "arrows"]) fun _ _ _ _ _ _ us hl => match us, hl with | [_, _], _ => rfl
theorem b__law_drawn {K : PySem.W.Frag} {mg : Str → Option Value} {A : Ad} (T : Txt K mg A) : Binds K A.fd__law_drawn ["box", "size", "ties"] [] := T.F__law_drawn.binds (ps := ["box", "size", "ties"]) fun _ _ _ _ _ _ us hl => match us, hl with | [_, _, _], _ => rfl
theorem b__law_asked {K : PySem.W.Frag} {mg : Str → Option Value} {A : Ad} (T : Txt K mg A) : Binds K A.fd__law_asked ["web", "size", "ties", "row"] [] := T.F__law_asked.binds (ps := ["web", "size", "ties", "row"]) fun _ _ _ _ _ _ us hl => match us, hl with | [_, _, _, _], _ => rfl
theorem b__law_spoilt {K : PySem.W.Frag} {mg : Str → Option Value} {A : Ad} (T : Txt K mg A) : Binds K A.fd__law_spoilt ["box", "row"] [] := T.F__law_spoilt.binds (ps := ["box", "row"]) fun _ _ _ _ _ _ us hl => match us, hl with | [_, _], _ => rfl
theorem b__law_all {K : PySem.W.Frag} {mg : Str → Option Value} {A : Ad} (T : Txt K mg A) : Binds K A.fd__law_all ["script"] [] := T.F__law_all.binds (ps := ["script"]) fun _ _ _ _ _ _ us hl => match us, hl with | [_], _ => rfl
theorem b_law {K : PySem.W.Frag} {mg : Str → Option Value} {A : Ad} (T : Txt K mg A) : Binds K A.fd_law ["script"] [] := T.F_law.binds (ps := ["script"]) fun _ _ _ _ _ _ us hl => match us, hl with | [_], _ => rfl
theorem kb_is_direction_0_value_web {K : PySem.W.Frag} {mg : Str → Option Value} {A : Ad} (T : Txt K mg A) : KBinds K A.fd_is_direction ["web", "value"] ["value", "web"] (kwP 0 2 [1, 0]) (kwP 0 2 [1, 0]) := kbP T.F_is_direction (by decide) fun _ _ _ _ _ _ us ws h1 h2 => match us, ws, h1, h2 with | [], [_, _], _, _ => rfl
end Pf

namespace Pf
open PySem L2 Dl
open Evl (Ex)
local macro_rules | `(tactic| walk_at "r0") => `(tactic| with_reducible first
  | refine sw_seq ?_
  | refine ew_var rfl ?_
  | refine ew_int ?_
  | refine ew_bl ?_
  | refine ew_non ?_
  | refine ew_str ?_
  | refine aw_cons ?_
  | refine aw_nil ?_
  | refine sw_par ?_
  | refine sw_next ?_
  | refine sw_if ?_
  | refine sw_ret ?_
  | refine tw_not ?_
  | refine tw_and ?_
  | refine tw_or ?_
  | refine tw_test ?_
  | refine tw_B ?_
  | refine tw_tru rfl ?_
  | refine ew_andV ?_
  | refine ew_orV ?_
  | refine ew_notV ?_
  | refine ew_if ?_
  | refine ew_chain ?_
  | refine ew_isN ?_
  | refine ew_tup ?_
  | refine ew_lst ?_
  | refine ew_isiD isN_int rfl ?_
  | refine ew_isiD isN_bool rfl ?_
  | refine ew_isiD isN_tuple rfl ?_
  | refine ew_isiD isN_list rfl ?_
  | refine ew_isiD isN_str rfl ?_
  | refine ew_isi2D isN_list isN_tuple rfl ?_
  | refine ew_isi2D isN_tuple isN_list rfl ?_
  | refine ew_cb ?_
  | refine ew_neg ?_
  | refine ew_op ?_
  | refine ⟨_, opv_int, ?_⟩
  | refine ⟨_, opv_cmp, ?_⟩
  | refine ⟨_, opv_eq, ?_⟩
  | refine ⟨_, opv_ne, ?_⟩
  | refine ⟨_, opv_eqB, ?_⟩
  | refine ⟨_, opv_eqS, ?_⟩
  | refine ⟨_, cbv_abs, ?_⟩
  | refine ⟨_, cbv_max2, ?_⟩
  | refine ⟨_, cbv_min2, ?_⟩
  | refine pw_none ?_
  | refine pw_some ?_
  | refine ⟨_, cbv_int, ?_⟩
  | refine ⟨_, rfl, ?_⟩
  | refine ⟨_, _, rfl, ?_⟩
  | refine ⟨_, _, _, rfl, ?_⟩
  | refine ⟨_, _, _, _, rfl, ?_⟩
  | refine br_t ?_
  | refine br_f ?_
  | refine ⟨dt_int, ?_⟩
  | refine ⟨dt_bl, ?_⟩
  | refine ⟨dt_str, ?_⟩
  | refine ⟨dt_non, ?_⟩
  | refine ⟨dt_tup, ?_⟩
  | refine ⟨dt_lst, ?_⟩
  | refine sw_asg ?_
  | refine sw_drop ?_)
local macro_rules | `(tactic| walk_at "r1") => `(tactic| first
  | ((with_reducible refine ew_tupL ?hK ?_); (case hK => rfl))
  | ((with_reducible refine ew_catT ?hK ?_); (case hK => rfl))
  | ((with_reducible refine ew_repT ?hK ?_); (case hK => rfl))
  | ((with_reducible refine ew_of_eb (eb_listL ?hK ?_)); (case hK => rfl))
  | ((with_reducible refine ew_of_eb (eb_cutL ?hK ?_)); (case hK => rfl))
  | walk_at "r0"
  | ((with_reducible refine ew_of_eb (eb_mapT ?hV ?hK ?_)); (case hK => rfl); (case hV => rfl))
  | ((with_reducible refine ew_of_eb (eb_mapL ?hV ?hK ?_)); (case hK => rfl); (case hV => rfl))
  | ((with_reducible refine ew_of_eb (eb_mapR ?hV ?_)); (case hV => rfl))
  | ((with_reducible refine ew_callP ?hK trivial ?_); (case hK => rfl))
  | ((with_reducible refine ew_callW ?hK trivial ?_); (case hK => rfl))
  | ((with_reducible refine ew_callH ?hK trivial ?_); (case hK => rfl))
  | ((with_reducible refine ew_callR ?hK ?hF ?_); (case hK => rfl); (case hF => assumption))
  | ((with_reducible refine len_ok ?hK ?_); (case hK => rfl))
  | ((with_reducible refine ew_notT ?hK ?_); (case hK => rfl))
  | ((with_reducible refine ew_cutT ?hK ?_); (case hK => rfl))
  | ((with_reducible refine ⟨(?hK : Dt _ _), ?_⟩); (case hK => assumption))
  | ((with_reducible refine sw_unp2 ?hK ?hn ?_); (case hK => rfl); (case hn => rfl)))
local macro_rules | `(tactic| walk_at "side") => `(tactic| first
  | exact Or.inr (by decide)
  | exact Or.inl (by decide)
  | exact ⟨by decide, by decide⟩
  | exact ⟨by decide, by decide, by decide⟩
  | decide
  | (dsimp only; decide)
  | exact mw (by assumption) (by assumption))
local macro_rules | `(tactic| walk_at "r2") => `(tactic| first
  | walk_at "r1"
  | ((with_reducible refine ⟨_, opv_intC ?hC, ?_⟩); (case hC => walk_at "side"))
  | ((with_reducible refine ⟨_, cbv_lenL ?hK, ?_⟩); (case hK => rfl))
  | ((with_reducible refine ⟨_, cbv_allM ?hK, ?_⟩); (case hK => rfl))
  | ((with_reducible refine ⟨_, cbv_anyM ?hK, ?_⟩); (case hK => rfl))
  | ((with_reducible refine ⟨_, cbv_sumM ?hK, ?_⟩); (case hK => rfl))
  | ((with_reducible refine ⟨_, cbv_lenT ?hK, ?_⟩); (case hK => rfl))
  | (with_reducible refine ⟨_, opv_ixT (by with_unfolding_all rfl) (by with_unfolding_all rfl), ?_⟩)
  | refine br_t ?_
  | refine br_f ?_)
local macro_rules | `(tactic| walk_at "rd") => `(tactic| repeat (walk_at "r2"))
local macro_rules | `(tactic| walk_at "rs") => `(tactic| repeat ((fail_if_success (with_reducible refine sw_isif ?_)); walk_at "r2"))
local macro_rules | `(tactic| walk_at "nf") => `(tactic| (try simp only [List.set_cons_zero, List.set_cons_succ, Dl.sets, Dl.asD]))
local macro_rules | `(tactic| walk_at "ru") => `(tactic| repeat ((fail_if_success (with_reducible refine sw_seq ?_)); walk_at "r2"))

abbrev c_is_integer : Cn := fun K w ds Ψ Ξ => ∃ d, ds = [d] ∧ Dt K d ∧ Ψ (.fz (.bl (isIntD d)))
theorem l_is_integer : ∀ K w ds Ψ Ξ, c_is_integer K w ds Ψ Ξ → ds.length = 1 := fun K w ds Ψ Ξ h => by
  obtain ⟨_, rfl, _⟩ := h
  rfl
theorem ok_is_integer {P : Program} {w : World} {K : PySem.W.Frag} {mg : Str → Option Value} {base : Heap} {A : Ad} (T : Txt K mg A) : FnOk P w K mg base CX0 1 A.is_integer A.fd_is_integer ["value"] (SpD K AnyR c_is_integer) := by
  refine Fun.ok T.F_is_integer sc_is_integer (fun vs H Q E h => spd_len (l_is_integer) h) (fun cdv A' outer s H vs Q E hr h => ⟨_, (pss_one (ps_ret (pe_and (pe_callB call_isi (by rfl) T.b_isinstance (by decide +kernel) (pa_cons (pv 0) (pa_cons (pe_bltn (v := .ty "int") (by rfl) T.b_int (by decide +kernel) rfl) pa_nil))) (pe_one (pe_not (pe_callB call_isi (by rfl) T.b_isinstance (by decide +kernel) (pa_cons (pv 0) (pa_cons (pe_bltn (v := .ty "bool") (by rfl) T.b_bool (by decide +kernel) rfl) pa_nil)))))))), ?_⟩)
  refine body_ok 1 (by decide) (l_is_integer) h (fun Γ ds Ψ Ξ hK hX hF hc ke => ?_)
  subst hK
  obtain ⟨d, rfl, hd, hc⟩ := hc
  walk_at "rd"
  refine ⟨fun h1 => ?_, fun h1 => ?_⟩
  · walk_at "rd"
    have e : (!isBlD d) = isIntD d := by cases d <;> first | rfl | cases h1
    rw [e]
    exact hc
  · have e : false = isIntD d := by cases d <;> first | rfl | cases h1
    rw [e]
    exact hc
def isNumD : D → Bool | .int i => decide (0 ≤ i) | _ => false
abbrev c_is_number : Cn := fun K w ds Ψ Ξ => ∃ d, ds = [d] ∧ Dt K d ∧ Ψ (.fz (.bl (isNumD d)))
theorem l_is_number : ∀ K w ds Ψ Ξ, c_is_number K w ds Ψ Ξ → ds.length = 1 := fun K w ds Ψ Ξ h => by
  obtain ⟨_, rfl, _⟩ := h
  rfl
theorem ok_is_number {P : Program} {w : World} {K : PySem.W.Frag} {mg : Str → Option Value} {base : Heap} {A : Ad} (T : Txt K mg A) : FnOk P w K mg base CX0 2 A.is_number A.fd_is_number ["value"] (SpD K AnyR c_is_number) := by
  refine Fun.ok T.F_is_number sc_is_number (fun vs H Q E h => spd_len (l_is_number) h) (fun cdv A' outer s H vs Q E hr h => ⟨_, (pss_one (ps_ret (pe_and (pe_call (ok_is_integer T) (hr.mono (by decide)) (by rfl) T.m_is_integer T.F_is_integer.kp (b_is_integer T) .nil pass0 (pa_cons (pv 0) pa_nil)) (pe_one (pe_cmpR op_ge (pv 0) pe_int (nomark _)))))), ?_⟩)
  refine body_ok 1 (by decide) (l_is_number) h (fun Γ ds Ψ Ξ hK hX hF hc ke => ?_)
  subst hK
  obtain ⟨d, rfl, ht, hc⟩ := hc
  walk_at "rd"
  refine ⟨fun h1 => ?_, fun h1 => ?_⟩
  · cases d <;> first | (cases h1; done) | skip
    walk_at "rd"
    exact hc
  · have e : false = isNumD d := by cases d <;> first | rfl | cases h1
    rw [e]
    exact hc
def isBelD (n : Int) : D → Bool | .int i => decide (0 ≤ i) && decide (i < n) | _ => false
abbrev c_is_number_below : Cn := fun K w ds Ψ Ξ => ∃ d n, ds = [d, .int n] ∧ Dt K d ∧ Ψ (.fz (.bl (isBelD n d)))
theorem l_is_number_below : ∀ K w ds Ψ Ξ, c_is_number_below K w ds Ψ Ξ → ds.length = 2 := fun K w ds Ψ Ξ h => by
  obtain ⟨_, _, rfl, _⟩ := h
  rfl
theorem ok_is_number_below {P : Program} {w : World} {K : PySem.W.Frag} {mg : Str → Option Value} {base : Heap} {A : Ad} (T : Txt K mg A) : FnOk P w K mg base CX0 2 A.is_number_below A.fd_is_number_below ["value", "limit"] (SpD K AnyR c_is_number_below) := by
  refine Fun.ok T.F_is_number_below sc_is_number_below (fun vs H Q E h => spd_len (l_is_number_below) h) (fun cdv A' outer s H vs Q E hr h => ⟨_, (pss_one (ps_ret (pe_and (pe_call (ok_is_integer T) (hr.mono (by decide)) (by rfl) T.m_is_integer T.F_is_integer.kp (b_is_integer T) .nil pass0 (pa_cons (pv 0) pa_nil)) (pe_one (pe_chain op_le op_lt pe_int (pv 0) (pv 1)))))), ?_⟩)
  refine body_ok 2 (by decide) (l_is_number_below) h (fun Γ ds Ψ Ξ hK hX hF hc ke => ?_)
  subst hK
  obtain ⟨d, n, rfl, ht, hc⟩ := hc
  walk_at "rd"
  refine ⟨fun h1 => ?_, fun h1 => ?_⟩
  · cases d <;> first | (cases h1; done) | skip
    rename_i i
    walk_at "rd"
    refine ⟨fun h2 => ?_, fun h2 => ?_⟩
    · walk_at "rd"
      have e : decide (i < n) = isBelD n (.int i) := by
        show _ = (decide (0 ≤ i) && decide (i < n))
        rw [h2]
        rfl
      rw [e]
      exact hc
    · have e : false = isBelD n (.int i) := by
        show _ = (decide (0 ≤ i) && decide (i < n))
        rw [h2]
        rfl
      rw [e]
      exact hc
  · have e : false = isBelD n d := by cases d <;> first | rfl | cases h1
    rw [e]
    exact hc
abbrev c_is_sequence : Cn := fun K w ds Ψ Ξ => ∃ d, ds = [d] ∧ Dt K d ∧ Ψ (.fz (.bl (isLstD d || isTupD d)))
theorem l_is_sequence : ∀ K w ds Ψ Ξ, c_is_sequence K w ds Ψ Ξ → ds.length = 1 := fun K w ds Ψ Ξ h => by
  obtain ⟨_, rfl, _⟩ := h
  rfl
theorem ok_is_sequence {P : Program} {w : World} {K : PySem.W.Frag} {mg : Str → Option Value} {base : Heap} {A : Ad} (T : Txt K mg A) : FnOk P w K mg base CX0 1 A.is_sequence A.fd_is_sequence ["value"] (SpD K AnyR c_is_sequence) := by
  refine Fun.ok T.F_is_sequence sc_is_sequence (fun vs H Q E h => spd_len (l_is_sequence) h) (fun cdv A' outer s H vs Q E hr h => ⟨_, (pss_one (ps_ret (pe_callB call_isiT (by rfl) T.b_isinstance (by decide +kernel) (pa_cons (pv 0) (pa_cons (pe_tup (pa_cons (pe_bltn (v := .ty "list") (by rfl) T.b_list (by decide +kernel) rfl) (pa_cons (pe_bltn (v := .ty "tuple") (by rfl) T.b_tuple (by decide +kernel) rfl) pa_nil))) pa_nil))))), ?_⟩)
  refine body_ok 1 (by decide) (l_is_sequence) h (fun Γ ds Ψ Ξ hK hX hF hc ke => ?_)
  subst hK
  obtain ⟨d, rfl, hd, hc⟩ := hc
  walk_at "rd"
  exact hc
def isPairD : D → Bool | .tup ds => decide (ds.length = 2) | _ => false
abbrev c_is_pair : Cn := fun K w ds Ψ Ξ => ∃ d, ds = [d] ∧ Dt K d ∧ Ψ (.fz (.bl (isPairD d)))
theorem l_is_pair : ∀ K w ds Ψ Ξ, c_is_pair K w ds Ψ Ξ → ds.length = 1 := fun K w ds Ψ Ξ h => by
  obtain ⟨_, rfl, _⟩ := h
  rfl
theorem ok_is_pair {P : Program} {w : World} {K : PySem.W.Frag} {mg : Str → Option Value} {base : Heap} {A : Ad} (T : Txt K mg A) : FnOk P w K mg base CX0 1 A.is_pair A.fd_is_pair ["value"] (SpD K AnyR c_is_pair) := by
  refine Fun.ok T.F_is_pair sc_is_pair (fun vs H Q E h => spd_len (l_is_pair) h) (fun cdv A' outer s H vs Q E hr h => ⟨_, (pss_one (ps_ret (pe_and (pe_callB call_isi (by rfl) T.b_isinstance (by decide +kernel) (pa_cons (pv 0) (pa_cons (pe_bltn (v := .ty "tuple") (by rfl) T.b_tuple (by decide +kernel) rfl) pa_nil))) (pe_one (pe_cmpR op_eq (pe_callB call_len_seq (by rfl) T.b_len (by decide +kernel) (pa_cons (pv 0) pa_nil)) pe_int (nomark _)))))), ?_⟩)
  refine body_ok 1 (by decide) (l_is_pair) h (fun Γ ds Ψ Ξ hK hX hF hc ke => ?_)
  subst hK
  obtain ⟨d, rfl, hd, hc⟩ := hc
  walk_at "rd"
  refine ⟨fun h1 => ?_, fun h1 => ?_⟩
  · cases d <;> first | (cases h1; done) | skip
    rename_i ds
    walk_at "rd"
    have e : decide ((ds.length : Int) = 2) = isPairD (.tup ds) := by
      show _ = decide (ds.length = 2)
      by_cases h : ds.length = 2
      · rw [h]; rfl
      · rw [decide_eq_false h, decide_eq_false (by omega)]
    rw [e]
    exact hc
  · have e : false = isPairD d := by cases d <;> first | rfl | cases h1
    rw [e]
    exact hc
/-- data of which, if a tuple, isinstance tells of each member -/
def Dt1 (K : PySem.W.Frag) (d : D) : Prop := Dt K d ∧ ∀ xs, d = .tup xs → xs.length ≤ 99999 ∧ ∀ x ∈ xs, Dt K x
theorem not_tt {b : Bool} (h : (!b) = true) : b = false := by cases b <;> first | rfl | cases h
theorem not_ff {b : Bool} (h : (!b) = false) : b = true := by cases b <;> first | rfl | cases h
theorem all_map {xs : List D} {f : D → Bool} : (xs.map f).all id = xs.all f := by rw [List.all_map]; rfl
theorem int_of {d : D} (h : isIntD d = true) : ∃ i, d = .int i := by cases d <;> first | (cases h; done) | exact ⟨_, rfl⟩
def frzD : Nat → D → D
  | n + 1, .tup ds => .tup (ds.map (frzD n))
  | n + 1, .lst ds => .tup (ds.map (frzD n))
  | _, d => d
/-- data that frozen takes, lists and tuples at most n deep -/
inductive FzD (K : PySem.W.Frag) : Nat → D → Prop
  | one (n : Nat) (d : D) (h : Dt K d) (h1 : isLstD d = false) (h2 : isTupD d = false) : FzD K n d
  | tup (n : Nat) (ds : List D) (h : ∀ d ∈ ds, FzD K n d) (hl : ds.length ≤ 99999) : FzD K (n + 1) (.tup ds)
  | lst (n : Nat) (ds : List D) (h : ∀ d ∈ ds, FzD K n d) (hl : ds.length ≤ 99999) : FzD K (n + 1) (.lst ds)
theorem frz_one {n : Nat} {d : D} (h1 : isLstD d = false) (h2 : isTupD d = false) : frzD n d = d := by cases n <;> cases d <;> first | rfl | (cases h1; done) | (cases h2; done)
abbrev c_frzA (n : Nat) : Cn := fun K w ds Ψ Ξ => ∃ d, ds = [d] ∧ isLstD d = false ∧ FzD K n d ∧ Ψ (.fz (frzD n d))
abbrev c_frzB (n : Nat) : Cn := fun K w ds Ψ Ξ => ∃ xs, ds = [.lst xs] ∧ FzD K n (.lst xs) ∧ Ψ (.fz (frzD n (.lst xs)))
abbrev c_frz (n : Nat) : Cn := COr (c_frzA n) (c_frzB n)
theorem frz_in {K : PySem.W.Frag} {n : Nat} {w : Addr} {d : D} {Ψ : B → Prop} {Ξ : Addr → Str → D → Prop} (h : FzD K n d) (p : Ψ (.fz (frzD n d))) : c_frz n K w [d] Ψ Ξ := by
  cases d with
  | lst xs => exact .inr ⟨xs, rfl, h, p⟩
  | _ => exact .inl ⟨_, rfl, rfl, h, p⟩
theorem l_frzA (n : Nat) : ∀ K w ds Ψ Ξ, c_frzA n K w ds Ψ Ξ → ds.length = 1 := fun K w ds Ψ Ξ h => by
  obtain ⟨_, rfl, _⟩ := h
  rfl
theorem l_frzB (n : Nat) : ∀ K w ds Ψ Ξ, c_frzB n K w ds Ψ Ξ → ds.length = 1 := fun K w ds Ψ Ξ h => by
  obtain ⟨_, rfl, _⟩ := h
  rfl
theorem l_frz (n : Nat) : ∀ K w ds Ψ Ξ, c_frz n K w ds Ψ Ξ → ds.length = 1 := fun K w ds Ψ Ξ h => h.elim (l_frzA n K w ds Ψ Ξ) (l_frzB n K w ds Ψ Ξ)
theorem frz_step {P : Program} {w : World} {K : PySem.W.Frag} {mg : Str → Option Value} {base : Heap} {A : Ad} (T : Txt K mg A) {n k : Nat} (hk : 1 ≤ k) {sp : Sp} (G : FnOk P w K mg base CX0 k A.frozen A.fd_frozen ["value"] sp) (hsp : ∀ m, n = m + 1 → sp = SpD K AnyR (c_frz m)) :
    FnOk P w K mg base CX0 (k + 1) A.frozen A.fd_frozen ["value"] (SpD K AnyR (c_frz n)) := by
  refine T.F_frozen.ok sc_frozen (fun vs H Q E h => spd_len (l_frz n) h) (fun cdv A' outer s H vs Q E hr h => ?_)
  rcases spd_or h with h | h
  · refine ⟨_,
(pss_cons (ps_if (pt_val (pe_call (ok_is_sequence T) (hr.mono hk) (by rfl) T.m_is_sequence T.F_is_sequence.kp (b_is_sequence T) .nil pass0 (pa_cons (pv 0) pa_nil))) (pss_one (ps_ret (pe_callTy call_tuple_of (by rfl) T.b_tuple (by decide +kernel) (pa_cons (pe_lc (own := [("one", 1)]) (by rfl) sc_frozen.nd (pi_tup (pv 0)) (blkOk_by (own := [("one", 1)]) (N := ["value", "one"]) (sc := defScope s_frozen) (by decide +kernel)) (fun _ _ _ _ _ => (pg_name (i := 1) sc_frozen.nd rfl (.inl rfl))) (fun _ _ _ _ _ => pts_nil) (fun _ _ _ _ _ => (pe_call (G) hr (by rfl) T.m_frozen T.F_frozen.kp (b_frozen T) .nil pass0 (pa_cons (pv 1) pa_nil)))) pa_nil)))) pss_nil)
        (pss_one (ps_ret (pv 0))))
      , ?_⟩
    refine body_ok 1 (by decide) (l_frzA n) h (fun Γ ds Ψ Ξ hK hX hF hc ke => ?_)
    subst hK
    obtain ⟨d, rfl, hno, hd, hc⟩ := hc
    cases hd with
    | one _ _ h h1 h2 =>
      walk_at "rd"
      rw [h1, h2]
      rw [frz_one h1 h2] at hc
      walk_at "rd"
      exact hc
    | tup n ds hs hl =>
      have esp := hsp n rfl
      subst esp
      walk_at "rd"
      refine ⟨(fun es z => by cases z), hl, frzD n, fun x hx' c => ?_, ?_⟩
      · walk_at "rd"
        exact frz_in (hs x hx') ⟨rfl, rfl⟩
      · exact ⟨_, rfl, hc⟩
    | lst n ds hs hl => cases hno
  · refine ⟨_,
(pss_cons (ps_if (pt_val (pe_call (ok_is_sequence T) (hr.mono hk) (by rfl) T.m_is_sequence T.F_is_sequence.kp (b_is_sequence T) .nil pass0 (pa_cons (pv 0) pa_nil))) (pss_one (ps_ret (pe_callTy call_tuple_of (by rfl) T.b_tuple (by decide +kernel) (pa_cons (pe_lc (own := [("one", 1)]) (by rfl) sc_frozen.nd (pi_list (pv 0)) (blkOk_by (own := [("one", 1)]) (N := ["value", "one"]) (sc := defScope s_frozen) (by decide +kernel)) (fun _ _ _ _ _ => (pg_name (i := 1) sc_frozen.nd rfl (.inl rfl))) (fun _ _ _ _ _ => pts_nil) (fun _ _ _ _ _ => (pe_call (G) hr (by rfl) T.m_frozen T.F_frozen.kp (b_frozen T) .nil pass0 (pa_cons (pv 1) pa_nil)))) pa_nil)))) pss_nil)
        (pss_one (ps_ret (pv 0))))
      , ?_⟩
    refine body_ok 1 (by decide) (l_frzB n) h (fun Γ ds Ψ Ξ hK hX hF hc ke => ?_)
    subst hK
    obtain ⟨d, rfl, hd, hc⟩ := hc
    cases hd with
    | one _ _ h h1 h2 => cases h1
    | lst n ds hs hl =>
      have esp := hsp n rfl
      subst esp
      walk_at "rd"
      refine ⟨(fun es z => by cases z), hl, frzD n, fun x hx' c => ?_, ?_⟩
      · walk_at "rd"
        exact frz_in (hs x hx') ⟨rfl, rfl⟩
      · exact ⟨_, rfl, hc⟩
theorem ok_frz {P : Program} {w : World} {K : PySem.W.Frag} {mg : Str → Option Value} {base : Heap} {A : Ad} (T : Txt K mg A) : ∀ n, FnOk P w K mg base CX0 (n + 2) A.frozen A.fd_frozen ["value"] (SpD K AnyR (c_frz n))
  | 0 => frz_step T (k := 1) (Nat.le_refl _) (T.F_frozen.ok sc_frozen (k := 0) (sp := fun _ _ _ _ => False) (fun _ _ _ _ h => h.elim) (fun _ _ _ _ _ _ _ _ _ h => h.elim)) (fun _ e => by cases e)
  | n + 1 => frz_step T (by omega) (ok_frz T n) (fun m e => by cases e; rfl)
end Pf

namespace Pf
open PySem L2 Dl
open Evl (Ex)
local macro_rules | `(tactic| walk_at "r0") => `(tactic| with_reducible first
  | refine sw_seq ?_
  | refine ew_var rfl ?_
  | refine ew_int ?_
  | refine ew_bl ?_
  | refine ew_non ?_
  | refine ew_str ?_
  | refine aw_cons ?_
  | refine aw_nil ?_
  | refine sw_par ?_
  | refine sw_next ?_
  | refine sw_if ?_
  | refine sw_ret ?_
  | refine tw_not ?_
  | refine tw_and ?_
  | refine tw_or ?_
  | refine tw_test ?_
  | refine tw_B ?_
  | refine tw_tru rfl ?_
  | refine ew_andV ?_
  | refine ew_orV ?_
  | refine ew_notV ?_
  | refine ew_if ?_
  | refine ew_chain ?_
  | refine ew_isN ?_
  | refine ew_tup ?_
  | refine ew_lst ?_
  | refine ew_isiD isN_int rfl ?_
  | refine ew_isiD isN_bool rfl ?_
  | refine ew_isiD isN_tuple rfl ?_
  | refine ew_isiD isN_list rfl ?_
  | refine ew_isiD isN_str rfl ?_
  | refine ew_isi2D isN_list isN_tuple rfl ?_
  | refine ew_isi2D isN_tuple isN_list rfl ?_
  | refine ew_cb ?_
  | refine ew_neg ?_
  | refine ew_op ?_
  | refine ⟨_, opv_int, ?_⟩
  | refine ⟨_, opv_cmp, ?_⟩
  | refine ⟨_, opv_eq, ?_⟩
  | refine ⟨_, opv_ne, ?_⟩
  | refine ⟨_, opv_eqB, ?_⟩
  | refine ⟨_, opv_eqS, ?_⟩
  | refine ⟨_, cbv_abs, ?_⟩
  | refine ⟨_, cbv_max2, ?_⟩
  | refine ⟨_, cbv_min2, ?_⟩
  | refine pw_none ?_
  | refine pw_some ?_
  | refine ⟨_, cbv_int, ?_⟩
  | refine ⟨_, rfl, ?_⟩
  | refine ⟨_, _, rfl, ?_⟩
  | refine ⟨_, _, _, rfl, ?_⟩
  | refine ⟨_, _, _, _, rfl, ?_⟩
  | refine br_t ?_
  | refine br_f ?_
  | refine ⟨dt_int, ?_⟩
  | refine ⟨dt_bl, ?_⟩
  | refine ⟨dt_str, ?_⟩
  | refine ⟨dt_non, ?_⟩
  | refine ⟨dt_tup, ?_⟩
  | refine ⟨dt_lst, ?_⟩
  | refine sw_asg ?_
  | refine sw_drop ?_)
local macro_rules | `(tactic| walk_at "r1") => `(tactic| first
  | ((with_reducible refine ew_tupL ?hK ?_); (case hK => rfl))
  | ((with_reducible refine ew_catT ?hK ?_); (case hK => rfl))
  | ((with_reducible refine ew_repT ?hK ?_); (case hK => rfl))
  | ((with_reducible refine ew_of_eb (eb_listL ?hK ?_)); (case hK => rfl))
  | ((with_reducible refine ew_of_eb (eb_cutL ?hK ?_)); (case hK => rfl))
  | walk_at "r0"
  | ((with_reducible refine ew_of_eb (eb_mapT ?hV ?hK ?_)); (case hK => rfl); (case hV => rfl))
  | ((with_reducible refine ew_of_eb (eb_mapL ?hV ?hK ?_)); (case hK => rfl); (case hV => rfl))
  | ((with_reducible refine ew_of_eb (eb_mapR ?hV ?_)); (case hV => rfl))
  | ((with_reducible refine ew_callP ?hK trivial ?_); (case hK => rfl))
  | ((with_reducible refine ew_callW ?hK trivial ?_); (case hK => rfl))
  | ((with_reducible refine ew_callH ?hK trivial ?_); (case hK => rfl))
  | ((with_reducible refine ew_callR ?hK ?hF ?_); (case hK => rfl); (case hF => assumption))
  | ((with_reducible refine len_ok ?hK ?_); (case hK => rfl))
  | ((with_reducible refine ew_notT ?hK ?_); (case hK => rfl))
  | ((with_reducible refine ew_cutT ?hK ?_); (case hK => rfl))
  | ((with_reducible refine ⟨(?hK : Dt _ _), ?_⟩); (case hK => assumption))
  | ((with_reducible refine sw_unp2 ?hK ?hn ?_); (case hK => rfl); (case hn => rfl)))
local macro_rules | `(tactic| walk_at "side") => `(tactic| first
  | exact Or.inr (by decide)
  | exact Or.inl (by decide)
  | exact ⟨by decide, by decide⟩
  | exact ⟨by decide, by decide, by decide⟩
  | decide
  | (dsimp only; decide)
  | exact mw (by assumption) (by assumption))
local macro_rules | `(tactic| walk_at "r2") => `(tactic| first
  | walk_at "r1"
  | ((with_reducible refine ⟨_, opv_intC ?hC, ?_⟩); (case hC => walk_at "side"))
  | ((with_reducible refine ⟨_, cbv_lenL ?hK, ?_⟩); (case hK => rfl))
  | ((with_reducible refine ⟨_, cbv_allM ?hK, ?_⟩); (case hK => rfl))
  | ((with_reducible refine ⟨_, cbv_anyM ?hK, ?_⟩); (case hK => rfl))
  | ((with_reducible refine ⟨_, cbv_sumM ?hK, ?_⟩); (case hK => rfl))
  | ((with_reducible refine ⟨_, cbv_lenT ?hK, ?_⟩); (case hK => rfl))
  | (with_reducible refine ⟨_, opv_ixT (by with_unfolding_all rfl) (by with_unfolding_all rfl), ?_⟩)
  | refine br_t ?_
  | refine br_f ?_)
local macro_rules | `(tactic| walk_at "rd") => `(tactic| repeat (walk_at "r2"))
local macro_rules | `(tactic| walk_at "rs") => `(tactic| repeat ((fail_if_success (with_reducible refine sw_isif ?_)); walk_at "r2"))
local macro_rules | `(tactic| walk_at "nf") => `(tactic| (try simp only [List.set_cons_zero, List.set_cons_succ, Dl.sets, Dl.asD]))
local macro_rules | `(tactic| walk_at "ru") => `(tactic| repeat ((fail_if_success (with_reducible refine sw_seq ?_)); walk_at "r2"))

def isTieD (n : Int) : D → Bool | .tup [x, .int j] => isBelD n (.int j) && isBelD (j + 1) x | _ => false
/-- data of which, if a pair, isinstance tells of both -/
def Dt2 (K : PySem.W.Frag) (d : D) : Prop := Dt K d ∧ ∀ x y, d = .tup [x, y] → Dt K x ∧ Dt K y
theorem dt2_ints {K : PySem.W.Frag} {i j : Int} : Dt2 K (.tup [.int i, .int j]) := ⟨dt_tup, fun x y h => by cases h; exact ⟨dt_int, dt_int⟩⟩
theorem tie_no {n : Int} : ∀ {d : D}, isPairD d = false → isTieD n d = false
  | .tup [], _ => rfl
  | .tup [x], _ => by cases x <;> rfl
  | .tup [x, y], h => by cases h
  | .tup (x :: y :: z :: ds), _ => by cases y <;> rfl
  | .non, _ => rfl
  | .bl _, _ => rfl
  | .int _, _ => rfl
  | .str _, _ => rfl
  | .lst _, _ => rfl
  | .obj _ _, _ => rfl
  | .ptr _, _ => rfl
  | .err _ _ _ _, _ => rfl
  | .dct _, _ => rfl
theorem pair_of {d : D} (h : isPairD d = true) : ∃ x y, d = .tup [x, y] := by
  cases d <;> first | (cases h; done) | skip
  rename_i ds
  match ds, of_decide_eq_true (show decide (ds.length = 2) = true from h) with
  | [x, y], _ => exact ⟨x, y, rfl⟩
theorem bel_int {n : Int} {d : D} (h : isBelD n d = true) : ∃ i, d = .int i ∧ 0 ≤ i ∧ i < n := by
  cases d <;> first | (cases h; done) | skip
  rename_i i
  have h' : (decide (0 ≤ i) && decide (i < n)) = true := h
  rw [Bool.and_eq_true] at h'
  exact ⟨i, rfl, of_decide_eq_true h'.1, of_decide_eq_true h'.2⟩
abbrev c_is_tie : Cn := fun K w ds Ψ Ξ => ∃ d n, ds = [d, .int n] ∧ Dt2 K d ∧ Ψ (.fz (.bl (isTieD n d)))
theorem l_is_tie : ∀ K w ds Ψ Ξ, c_is_tie K w ds Ψ Ξ → ds.length = 2 := fun K w ds Ψ Ξ h => by
  obtain ⟨_, _, rfl, _⟩ := h
  rfl
theorem ok_is_tie {P : Program} {w : World} {K : PySem.W.Frag} {mg : Str → Option Value} {base : Heap} {A : Ad} (T : Txt K mg A) : FnOk P w K mg base CX0 3 A.is_tie A.fd_is_tie ["value", "size"] (SpD K AnyR c_is_tie) := by
  refine Fun.ok T.F_is_tie sc_is_tie (fun vs H Q E h => spd_len (l_is_tie) h) (fun cdv A' outer s H vs Q E hr h => ⟨_, (pss_cons (ps_if (pt_not (pt_val (pe_call (ok_is_pair T) (hr.mono (by decide)) (by rfl) T.m_is_pair T.F_is_pair.kp (b_is_pair T) .nil pass0 (pa_cons (pv 0) pa_nil)))) (pss_one (ps_ret pe_bl)) pss_nil)
        (pss_cons (ps_asg (pv 0) (pg_tup (by rfl) (pgs_cons (pg_name (i := 2) sc_is_tie.nd rfl (.inl rfl)) (pgs_cons (pg_name (i := 3) sc_is_tie.nd rfl (.inl rfl)) pgs_nil))))
        (pss_one (ps_ret (pe_and (pe_call (ok_is_number_below T) (hr.mono (by decide)) (by rfl) T.m_is_number_below T.F_is_number_below.kp (b_is_number_below T) .nil pass0 (pa_cons (pv 3) (pa_cons (pv 1) pa_nil))) (pe_one (pe_call (ok_is_number_below T) (hr.mono (by decide)) (by rfl) T.m_is_number_below T.F_is_number_below.kp (b_is_number_below T) .nil pass0 (pa_cons (pv 2) (pa_cons (pe_op op_add (pv 3) pe_int) pa_nil))))))))), ?_⟩)
  refine body_ok 2 (by decide) (l_is_tie) h (fun Γ ds Ψ Ξ hK hX hF hc ke => ?_)
  subst hK
  obtain ⟨d, n, rfl, ⟨hd, hx⟩, hc⟩ := hc
  walk_at "rd"
  refine ⟨fun h1 => ?_, fun h1 => ?_⟩
  · walk_at "rd"
    rw [tie_no (not_tt h1)] at hc
    exact hc
  · obtain ⟨x, y, rfl⟩ := pair_of (not_ff h1)
    obtain ⟨hdx, hdy⟩ := hx x y rfl
    walk_at "rd"
    refine ⟨fun h2 => ?_, fun h2 => ?_⟩
    · obtain ⟨j, rfl, _, _⟩ := bel_int h2
      walk_at "rd"
      have e : isBelD (j + 1) x = isTieD n (.tup [x, .int j]) := by
        show _ = (isBelD n (.int j) && _)
        rw [h2, Bool.true_and]
      rw [e]
      exact hc
    · have e : false = isTieD n (.tup [x, y]) := by
        cases y <;> first | rfl | skip
        show _ = (isBelD n (.int _) && _)
        rw [h2, Bool.false_and]
      rw [e]
      exact hc
def isWebD : D → D → Bool | .int n, .tup xs => decide (0 ≤ n) && xs.all (isTieD n) | _, _ => false
/-- data of which, if a tuple, isinstance tells of each member and of the members of pairs -/
def Dt3 (K : PySem.W.Frag) (d : D) : Prop := Dt K d ∧ ∀ xs, d = .tup xs → xs.length ≤ 99999 ∧ ∀ x ∈ xs, Dt2 K x
abbrev c_is_web : Cn := fun K w ds Ψ Ξ => ∃ d e, ds = [d, e] ∧ Dt K d ∧ Dt3 K e ∧ Ψ (.fz (.bl (isWebD d e)))
theorem num_int {d : D} (h : isNumD d = true) : ∃ i, d = .int i ∧ 0 ≤ i := by
  cases d <;> first | (cases h; done) | skip
  exact ⟨_, rfl, of_decide_eq_true h⟩
theorem l_is_web : ∀ K w ds Ψ Ξ, c_is_web K w ds Ψ Ξ → ds.length = 2 := fun K w ds Ψ Ξ h => by
  obtain ⟨_, _, rfl, _⟩ := h
  rfl
theorem ok_is_web {P : Program} {w : World} {K : PySem.W.Frag} {mg : Str → Option Value} {base : Heap} {A : Ad} (T : Txt K mg A) : FnOk P w K mg base CX0 4 A.is_web A.fd_is_web ["size", "ties"] (SpD K AnyR c_is_web) := by
  refine Fun.ok T.F_is_web sc_is_web (fun vs H Q E h => spd_len (l_is_web) h) (fun cdv A' outer s H vs Q E hr h => ⟨_, (pss_cons (ps_if (PW.pt (pw_or (pt_not (pt_val (pe_call (ok_is_number T) (hr.mono (by decide)) (by rfl) T.m_is_number T.F_is_number.kp (b_is_number T) .nil pass0 (pa_cons (pv 0) pa_nil)))) (pw_or1 (pt_not (pt_val (pe_callB call_isi (by rfl) T.b_isinstance (by decide +kernel) (pa_cons (pv 1) (pa_cons (pe_bltn (v := .ty "tuple") (by rfl) T.b_tuple (by decide +kernel) rfl) pa_nil)))))))) (pss_one (ps_ret pe_bl)) pss_nil)
        (pss_one (ps_ret (pe_callB (cr_all rfl) (by rfl) T.b_all (by decide +kernel) (pa_cons (pe_lc (own := [("tie", 2)]) (by rfl) sc_is_web.nd (pi_tup (pv 1)) (blkOk_by (own := [("tie", 2)]) (N := ["size", "ties", "tie"]) (sc := defScope s_is_web) (by decide +kernel)) (fun _ _ _ _ _ => (pg_name (i := 2) sc_is_web.nd rfl (.inl rfl))) (fun _ _ _ _ _ => pts_nil) (fun _ _ _ _ _ => (pe_call (ok_is_tie T) (hr.mono (by decide)) (by rfl) T.m_is_tie T.F_is_tie.kp (b_is_tie T) .nil pass0 (pa_cons (pv 2) (pa_cons (pv 0) pa_nil))))) pa_nil))))), ?_⟩)
  refine body_ok 2 (by decide) (l_is_web) h (fun Γ ds Ψ Ξ hK hX hF hc ke => ?_)
  subst hK
  obtain ⟨d, e, rfl, hd, ⟨he, hx⟩, hc⟩ := hc
  walk_at "rd"
  refine ⟨fun h1 => ?_, fun h1 => ?_⟩
  · walk_at "rd"
    have z : false = isWebD d e := by
      cases d <;> first | rfl | skip
      cases e <;> first | rfl | skip
      show false = (isNumD (.int _) && _)
      rw [not_tt h1, Bool.false_and]
    rw [z]
    exact hc
  · obtain ⟨n, rfl, h0⟩ := num_int (not_ff h1)
    walk_at "rd"
    refine ⟨fun h2 => ?_, fun h2 => ?_⟩
    · walk_at "rd"
      have z : false = isWebD (.int n) e := by cases e <;> first | rfl | cases h2
      rw [z]
      exact hc
    · cases e <;> first | (cases h2; done) | skip
      rename_i xs
      obtain ⟨hl, hx⟩ := hx xs rfl
      walk_at "rd"
      refine ⟨(fun es z => by cases z), hl, fun x => .bl (isTieD n x), fun x hx' c => ?_, ?_⟩
      · have hd' := hx x hx'
        walk_at "rd"
        exact ⟨hd', rfl, rfl⟩
      · walk_at "rd"
        have z : xs.all (isTieD n) = isWebD (.int n) (.tup xs) := by
          show _ = (decide (0 ≤ n) && _)
          rw [decide_eq_true h0, Bool.true_and]
        rw [z]
        exact hc
theorem ok_InvalidWeb__init {P : Program} {w : World} {K : PySem.W.Frag} {mg : Str → Option Value} {base : Heap} {A : Ad} (T : Txt K mg A) : FnOk P w K mg base CX0 1 A.InvalidWeb__init A.fd_InvalidWeb__init ["self", "value"] (spInit K A.c_InvalidWeb "value") := by
  refine T.F_InvalidWeb__init.ok sc_InvalidWeb__init (fun vs H Q E h => by obtain ⟨_, _, rfl, _⟩ := h; rfl) (fun cdv A' outer s H vs Q E hr h => ⟨_, (pss_one (ps_ost (pv 0) (pv 1))), body_init T.ox_InvalidWeb T.no_InvalidWeb_value rfl h⟩)
abbrev c_Web (A : Ad) : Cn := fun K w ds Ψ Ξ => ∃ d e, ds = [d, e] ∧ FzD K 4 e ∧ Dt K d ∧ Dt3 K (frzD 4 e) ∧ (isWebD d (frzD 4 e) = true → Ψ (.ow (.obj A.c_Web [("size", d), ("ties", frzD 4 e)]))) ∧ (isWebD d (frzD 4 e) = false → Ξ A.c_InvalidWeb "value" (.tup [d, e]))
theorem l_Web__init (A : Ad) : ∀ K w ds Ψ Ξ, c_Web A K w ds Ψ Ξ → ds.length = 2 := fun K w ds Ψ Ξ h => by
  obtain ⟨_, _, rfl, _⟩ := h
  rfl
theorem ok_Web__init {P : Program} {w : World} {K : PySem.W.Frag} {mg : Str → Option Value} {base : Heap} {A : Ad} (T : Txt K mg A) : FnOk P w K mg base (L2N.CX P w) 7 A.Web__init A.fd_Web__init ["self", "size", "ties"] (SpI K A.c_Web (c_Web A)) := by
  refine okN T.F_Web__init sc_Web__init (fun vs H Q E h => spi_len (l_Web__init A) h) (fun cdv A' outer s H vs Q E hr h => ⟨_, (pss_cons (ps_set (i := 3) sc_Web__init.nd rfl (.inl rfl) (pe_call (ok_frz T 4) (hr.mono (by decide)) (by rfl) T.m_frozen T.F_frozen.kp (b_frozen T) .nil pass0 (pa_cons (pv 2) pa_nil)))
        (pss_cons (ps_if (pt_not (pt_val (pe_call (ok_is_web T) (hr.mono (by decide)) (by rfl) T.m_is_web T.F_is_web.kp (b_is_web T) .nil pass0 (pa_cons (pv 1) (pa_cons (pv 3) pa_nil))))) (pss_one (L2N.ps_raise rfl (L2N.takes_of rfl rfl rfl rfl) (made_own T.ox_InvalidWeb T.i_InvalidWeb T.t_InvalidWeb (ok_InvalidWeb__init T) (hr.mono (by decide)) (b_InvalidWeb__init T) (fun _ _ _ _ _ _ _ h => h.elim) (by rfl) T.m_InvalidWeb (pa_cons (pe_tup (pa_cons (pv 1) (pa_cons (pv 2) pa_nil))) pa_nil)))) pss_nil)
        (pss_cons (ps_fld (pv 0) (pv 1) rfl)
        (pss_one (ps_fld (pv 0) (pv 3) rfl))))), ?_⟩)
  refine body_mk 2 (by decide) (l_Web__init A) h (fun Γ x dx ds Ψ Ξ hK hc ke => ?_)
  subst hK
  obtain ⟨d, e, rfl, hz, hd, he, h1, h2⟩ := hc
  refine mk_pre (Ξ := Ξ) fun c => ?_
  walk_at "rd"
  refine frz_in hz ?_
  refine mk_pre (Ξ := Ξ) fun c => ?_
  walk_at "rd"
  refine ⟨he, _, rfl, fun h3 => ?_, fun h3 => ?_⟩
  · refine sw_raiseE (ke _) (fun _ _ _ _ x => x) ?_
    walk_at "rd"
    exact h2 (not_tt h3)
  · walk_at "rd"
    refine mk_fld (Ξ := Ξ) rfl T.cl_Web T.no_Web_size (by decide) fun c => ?_
    walk_at "rd"
    refine ⟨rfl, mk_last (Ξ := Ξ) rfl T.cl_Web T.no_Web_ties (Nat.le_of_ble_eq_true rfl) fun c => ?_⟩
    walk_at "rd"
    exact ⟨rfl, h1 (not_ff h3)⟩
end Pf

namespace Pf
open PySem L2 Dl Sh
open Evl (Ex)
local macro_rules | `(tactic| walk_at "r0") => `(tactic| with_reducible first
  | refine sw_seq ?_
  | refine ew_var rfl ?_
  | refine ew_int ?_
  | refine ew_bl ?_
  | refine ew_non ?_
  | refine ew_str ?_
  | refine aw_cons ?_
  | refine aw_nil ?_
  | refine sw_par ?_
  | refine sw_next ?_
  | refine sw_if ?_
  | refine sw_ret ?_
  | refine tw_not ?_
  | refine tw_and ?_
  | refine tw_or ?_
  | refine tw_test ?_
  | refine tw_B ?_
  | refine tw_tru rfl ?_
  | refine ew_andV ?_
  | refine ew_orV ?_
  | refine ew_notV ?_
  | refine ew_if ?_
  | refine ew_chain ?_
  | refine ew_isN ?_
  | refine ew_tup ?_
  | refine ew_lst ?_
  | refine ew_isiD isN_int rfl ?_
  | refine ew_isiD isN_bool rfl ?_
  | refine ew_isiD isN_tuple rfl ?_
  | refine ew_isiD isN_list rfl ?_
  | refine ew_isiD isN_str rfl ?_
  | refine ew_isi2D isN_list isN_tuple rfl ?_
  | refine ew_isi2D isN_tuple isN_list rfl ?_
  | refine ew_cb ?_
  | refine ew_neg ?_
  | refine ew_op ?_
  | refine ⟨_, opv_int, ?_⟩
  | refine ⟨_, opv_cmp, ?_⟩
  | refine ⟨_, opv_eq, ?_⟩
  | refine ⟨_, opv_ne, ?_⟩
  | refine ⟨_, opv_eqB, ?_⟩
  | refine ⟨_, opv_eqS, ?_⟩
  | refine ⟨_, cbv_abs, ?_⟩
  | refine ⟨_, cbv_max2, ?_⟩
  | refine ⟨_, cbv_min2, ?_⟩
  | refine pw_none ?_
  | refine pw_some ?_
  | refine ⟨_, cbv_int, ?_⟩
  | refine ⟨_, rfl, ?_⟩
  | refine ⟨_, _, rfl, ?_⟩
  | refine ⟨_, _, _, rfl, ?_⟩
  | refine ⟨_, _, _, _, rfl, ?_⟩
  | refine br_t ?_
  | refine br_f ?_
  | refine ⟨dt_int, ?_⟩
  | refine ⟨dt_bl, ?_⟩
  | refine ⟨dt_str, ?_⟩
  | refine ⟨dt_non, ?_⟩
  | refine ⟨dt_tup, ?_⟩
  | refine ⟨dt_lst, ?_⟩
  | refine sw_asg ?_
  | refine sw_drop ?_)
local macro_rules | `(tactic| walk_at "r1") => `(tactic| first
  | ((with_reducible refine ew_tupL ?hK ?_); (case hK => rfl))
  | ((with_reducible refine ew_catT ?hK ?_); (case hK => rfl))
  | ((with_reducible refine ew_repT ?hK ?_); (case hK => rfl))
  | ((with_reducible refine ew_of_eb (eb_listL ?hK ?_)); (case hK => rfl))
  | ((with_reducible refine ew_of_eb (eb_cutL ?hK ?_)); (case hK => rfl))
  | walk_at "r0"
  | ((with_reducible refine ew_of_eb (eb_mapT ?hV ?hK ?_)); (case hK => rfl); (case hV => rfl))
  | ((with_reducible refine ew_of_eb (eb_mapL ?hV ?hK ?_)); (case hK => rfl); (case hV => rfl))
  | ((with_reducible refine ew_of_eb (eb_mapR ?hV ?_)); (case hV => rfl))
  | ((with_reducible refine ew_callP ?hK trivial ?_); (case hK => rfl))
  | ((with_reducible refine ew_callW ?hK trivial ?_); (case hK => rfl))
  | ((with_reducible refine ew_callH ?hK trivial ?_); (case hK => rfl))
  | ((with_reducible refine ew_callR ?hK ?hF ?_); (case hK => rfl); (case hF => assumption))
  | ((with_reducible refine len_ok ?hK ?_); (case hK => rfl))
  | ((with_reducible refine ew_notT ?hK ?_); (case hK => rfl))
  | ((with_reducible refine ew_cutT ?hK ?_); (case hK => rfl))
  | ((with_reducible refine ⟨(?hK : Dt _ _), ?_⟩); (case hK => assumption))
  | ((with_reducible refine sw_unp2 ?hK ?hn ?_); (case hK => rfl); (case hn => rfl)))
local macro_rules | `(tactic| walk_at "side") => `(tactic| first
  | exact Or.inr (by decide)
  | exact Or.inl (by decide)
  | exact ⟨by decide, by decide⟩
  | exact ⟨by decide, by decide, by decide⟩
  | decide
  | (dsimp only; decide)
  | exact mw (by assumption) (by assumption))
local macro_rules | `(tactic| walk_at "r2") => `(tactic| first
  | walk_at "r1"
  | ((with_reducible refine ⟨_, opv_intC ?hC, ?_⟩); (case hC => walk_at "side"))
  | ((with_reducible refine ⟨_, cbv_lenL ?hK, ?_⟩); (case hK => rfl))
  | ((with_reducible refine ⟨_, cbv_allM ?hK, ?_⟩); (case hK => rfl))
  | ((with_reducible refine ⟨_, cbv_anyM ?hK, ?_⟩); (case hK => rfl))
  | ((with_reducible refine ⟨_, cbv_sumM ?hK, ?_⟩); (case hK => rfl))
  | ((with_reducible refine ⟨_, cbv_lenT ?hK, ?_⟩); (case hK => rfl))
  | (with_reducible refine ⟨_, opv_ixT (by with_unfolding_all rfl) (by with_unfolding_all rfl), ?_⟩)
  | refine br_t ?_
  | refine br_f ?_)
local macro_rules | `(tactic| walk_at "rd") => `(tactic| repeat (walk_at "r2"))
local macro_rules | `(tactic| walk_at "rs") => `(tactic| repeat ((fail_if_success (with_reducible refine sw_isif ?_)); walk_at "r2"))
local macro_rules | `(tactic| walk_at "nf") => `(tactic| (try simp only [List.set_cons_zero, List.set_cons_succ, Dl.sets, Dl.asD]))
local macro_rules | `(tactic| walk_at "ru") => `(tactic| repeat ((fail_if_success (with_reducible refine sw_seq ?_)); walk_at "r2"))

@[reducible] def shD (p : Int × Int) : D := .tup [.int p.1, .int p.2]
/-- a web of n nodes, as data -/
@[reducible] def webD (A : Ad) (n : Int) (ts : List (Int × Int)) : D := .obj A.c_Web [("size", .int n), ("ties", .tup (ts.map shD))]
/-- right ties of n nodes -/
def TiesOk (n : Int) (ts : List (Int × Int)) : Prop := ∀ p ∈ ts, 0 ≤ p.1 ∧ p.1 ≤ p.2 ∧ p.2 < n
theorem item_map {α β : Type} {f : α → β} {ps : List α} {i : Nat} {y : β} (h : (ps.map f)[i]? = some y) : ∃ q, ps[i]? = some q ∧ y = f q := by
  rw [List.getElem?_map] at h
  cases e : ps[i]? with
  | none =>
    rw [e] at h
    cases h
  | some q =>
    rw [e] at h
    exact ⟨q, rfl, (Option.some.inj h).symm⟩
theorem rng_map {f : D → D} {n : Nat} : (rngD n).map f = (List.range n).map fun (i : Nat) => f (.int (i : Int)) := by
  unfold rngD
  rw [List.map_map]
  rfl
theorem rng_mem {n : Nat} {x : D} (h : x ∈ rngD n) : ∃ i : Nat, i < n ∧ x = .int (i : Int) := by
  obtain ⟨i, hi, rfl⟩ := List.mem_map.mp h
  exact ⟨i, List.mem_range.mp hi, rfl⟩
/-! bits of numbers, as the program asks for them -/
def mD (m : Nat) : D := .int (m : Int)
def msD (R : List Nat) : D := .tup (R.map mD)
theorem nat_div {m k : Nat} : (m : Int) / 2 ^ k = ((m / 2 ^ k : Nat) : Int) := by
  rw [Int.natCast_ediv, Int.natCast_pow]
  rfl
theorem bit_of {m k : Nat} : Builtin.bitAnd ((m : Int) / 2 ^ k) 1 = if m.testBit k = true then 1 else 0 := by
  have h := Bits.bitAnd_mask (x := (m : Int) / 2 ^ k) 1 (by rw [nat_div]; exact Int.natCast_nonneg _)
  rw [show (2 : Int) ^ 1 - 1 = 1 by decide] at h
  rw [h, nat_div, Nat.testBit_eq_decide_div_mod_eq]
  have h2 : (m / 2 ^ k) % 2 < 2 := Nat.mod_lt _ (by decide)
  by_cases c : m / 2 ^ k % 2 = 1
  · rw [if_pos (decide_eq_true c)]
    omega
  · rw [if_neg (by rw [decide_eq_false c]; decide)]
    omega
theorem bor_of {m k : Nat} : Builtin.bitOr (m : Int) (k : Int) = ((m ||| k : Nat) : Int) := by
  rw [bitOr_nn (Int.natCast_nonneg _) (Int.natCast_nonneg _)]
  rfl
theorem one_shl {k : Nat} : (1 : Int) * 2 ^ ((k : Int)).toNat = ((2 ^ k : Nat) : Int) := by
  rw [Int.one_mul, Int.toNat_natCast, Int.natCast_pow]
  rfl
def arrowP (p : Int × Int) (w : Int) : Int × Int := if w = 1 then p else (p.2, p.1)
abbrev c_arrow_of : Cn := fun K w ds Ψ Ξ => ∃ (p : Int × Int) (u : Int), ds = [shD p, .int u] ∧ Ψ (.fz (shD (arrowP p u)))
theorem l_arrow_of : ∀ K w ds Ψ Ξ, c_arrow_of K w ds Ψ Ξ → ds.length = 2 := fun K w ds Ψ Ξ h => by
  obtain ⟨_, _, rfl, _⟩ := h
  rfl
theorem ok_arrow_of {P : Program} {w : World} {K : PySem.W.Frag} {mg : Str → Option Value} {base : Heap} {A : Ad} (T : Txt K mg A) : FnOk P w K mg base CX0 1 A.arrow_of A.fd_arrow_of ["tie", "way"] (SpD K AnyR c_arrow_of) := by
  refine Fun.ok T.F_arrow_of sc_arrow_of (fun vs H Q E h => spd_len (l_arrow_of) h) (fun cdv A' outer s H vs Q E hr h => ⟨_, (pss_cons (ps_asg (pv 0) (pg_tup (by rfl) (pgs_cons (pg_name (i := 2) sc_arrow_of.nd rfl (.inl rfl)) (pgs_cons (pg_name (i := 3) sc_arrow_of.nd rfl (.inl rfl)) pgs_nil))))
        (pss_one (ps_ret (pe_ifExp (pt_cmpR op_eq (pv 1) pe_int (nomark _)) (pe_tup (pa_cons (pv 2) (pa_cons (pv 3) pa_nil))) (pe_tup (pa_cons (pv 3) (pa_cons (pv 2) pa_nil))))))), ?_⟩)
  refine body_ok 2 (by decide) (l_arrow_of) h (fun Γ ds Ψ Ξ hK hX hF hc ke => ?_)
  subst hK
  obtain ⟨p, u, rfl, hc⟩ := hc
  walk_at "rd"
  refine ⟨fun h1 => ?_, fun h1 => ?_⟩
  · walk_at "rd"
    unfold arrowP at hc
    rw [if_pos (of_decide_eq_true h1)] at hc
    exact hc
  · walk_at "rd"
    unfold arrowP at hc
    rw [if_neg (of_decide_eq_false h1)] at hc
    exact hc
/-- the arrows of a row of ways -/
def arrowsL (ts : List (Int × Int)) (ws : List Int) : List (Int × Int) := (ts.zip ws).map fun z => arrowP z.1 z.2
def arrowF : D → D
  | .tup [.tup [.int a, .int b], .int u] => shD (arrowP (a, b) u)
  | _ => .non
abbrev c_arrows_of : Cn := fun K w ds Ψ Ξ => ∃ (ts : List (Int × Int)) (ws : List Int), ds = [.tup (ts.map shD), .tup (ws.map D.int)] ∧ ts.length = ws.length ∧ ts.length ≤ 1000 ∧ Ψ (.ow (.lst ((arrowsL ts ws).map shD)))
theorem zip_map2 {α β γ δ : Type} {f : α → γ} {g : β → δ} {xs : List α} {ys : List β} : (xs.map f).zip (ys.map g) = (xs.zip ys).map fun z => (f z.1, g z.2) := by
  rw [List.zip_map]
  rfl
theorem l_arrows_of : ∀ K w ds Ψ Ξ, c_arrows_of K w ds Ψ Ξ → ds.length = 2 := fun K w ds Ψ Ξ h => by
  obtain ⟨_, _, rfl, _⟩ := h
  rfl
theorem ok_arrows_of {P : Program} {w : World} {K : PySem.W.Frag} {mg : Str → Option Value} {base : Heap} {A : Ad} (T : Txt K mg A) : FnOk P w K mg base CX0 2 A.arrows_of A.fd_arrows_of ["ties", "direction"] (SpD K AnyR c_arrows_of) := by
  refine Fun.ok T.F_arrows_of sc_arrows_of (fun vs H Q E h => spd_len (l_arrows_of) h) (fun cdv A' outer s H vs Q E hr h => ⟨_, (pss_one (ps_ret (pe_lc (own := [("tie", 2), ("way", 3)]) (by rfl) sc_arrows_of.nd (RZ.pi_zipA (by rfl) T.b_zip (pa_cons (pv 0) (pa_cons (pv 1) pa_nil))) (blkOk_by (own := [("tie", 2), ("way", 3)]) (N := ["ties", "direction", "tie", "way"]) (sc := defScope s_arrows_of) (by decide +kernel)) (fun _ _ _ _ _ => (by exact (show PG _ _ (gTup K 2 _) from (pg_tup (by rfl) (pgs_cons (pg_name (i := 2) sc_arrows_of.nd rfl (.inl rfl)) (pgs_cons (pg_name (i := 3) sc_arrows_of.nd rfl (.inl rfl)) pgs_nil)))))) (fun _ _ _ _ _ => pts_nil) (fun _ _ _ _ _ => (pe_call (ok_arrow_of T) (hr.mono (by decide)) (by rfl) T.m_arrow_of T.F_arrow_of.kp (b_arrow_of T) .nil pass0 (pa_cons (pv 2) (pa_cons (pv 3) pa_nil))))))), ?_⟩)
  refine body_ok 2 (by decide) (l_arrows_of) h (fun Γ ds Ψ Ξ hK hX hF hc ke => ?_)
  subst hK
  obtain ⟨ts, ws, rfl, hl, hb, hc⟩ := hc
  refine sw_retB (eb_mapZT rfl rfl rfl rfl (by decide) (aw_cons (ew_var rfl (aw_cons (ew_var rfl (aw_nil ⟨_, _, rfl, by rw [List.length_map, List.length_map]; exact hl, (fun es z => by cases z), (fun es z => by cases z), ?_, arrowF, fun x hx => ?_, ?_⟩))))))
  · rw [List.length_map, List.length_zip, List.length_map, List.length_map]
    omega
  · rw [zip_map2, List.map_map] at hx
    obtain ⟨z, hz, rfl⟩ := List.mem_map.mp hx
    refine ⟨_, _, rfl, fun c => ?_⟩
    walk_at "rd"
    exact ⟨rfl, rfl⟩
  · rw [zip_map2, List.map_map, List.map_map]
    unfold arrowsL at hc
    rw [List.map_map] at hc
    exact hc
def onesF : D → D
  | .int k => mD (2 ^ k.toNat)
  | _ => .non
abbrev c_nothing_joined : Cn := fun K w ds Ψ Ξ => ∃ n : Nat, ds = [.int n] ∧ n ≤ 1000 ∧ Ψ (.fz (msD (Rc.ones n)))
theorem l_nothing_joined : ∀ K w ds Ψ Ξ, c_nothing_joined K w ds Ψ Ξ → ds.length = 1 := fun K w ds Ψ Ξ h => by
  obtain ⟨_, rfl, _⟩ := h
  rfl
theorem ok_nothing_joined {P : Program} {w : World} {K : PySem.W.Frag} {mg : Str → Option Value} {base : Heap} {A : Ad} (T : Txt K mg A) : FnOk P w K mg base CX0 1 A.nothing_joined A.fd_nothing_joined ["size"] (SpD K AnyR c_nothing_joined) := by
  refine Fun.ok T.F_nothing_joined sc_nothing_joined (fun vs H Q E h => spd_len (l_nothing_joined) h) (fun cdv A' outer s H vs Q E hr h => ⟨_, (pss_one (ps_ret (pe_callTy call_tuple_of (by rfl) T.b_tuple (by decide +kernel) (pa_cons (pe_lc (own := [("node", 1)]) (by rfl) sc_nothing_joined.nd (pi_range1 (by rfl) T.b_range (pa_cons (pv 0) pa_nil)) (blkOk_by (own := [("node", 1)]) (N := ["size", "node"]) (sc := defScope s_nothing_joined) (by decide +kernel)) (fun _ _ _ _ _ => (pg_name (i := 1) sc_nothing_joined.nd rfl (.inl rfl))) (fun _ _ _ _ _ => pts_nil) (fun _ _ _ _ _ => (pe_op op_shl pe_int (pv 1)))) pa_nil)))), ?_⟩)
  refine body_ok 1 (by decide) (l_nothing_joined) h (fun Γ ds Ψ Ξ hK hX hF hc ke => ?_)
  subst hK
  obtain ⟨n, rfl, hn, hc⟩ := hc
  refine sw_ret (ew_tupL rfl (ew_of_eb (eb_mapR rfl (aw_cons (ew_var rfl (aw_nil ⟨(n : Int), rfl, by omega, (fun es z => by cases z), by rw [rngD_len]; omega, onesF, fun x hx c => ?_, ?_⟩))))))
  · obtain ⟨k, hk, rfl⟩ := rng_mem hx
    walk_at "rd"
    refine ⟨_, opv_intC ⟨by omega, by omega, by decide⟩, rfl, ?_⟩
    rw [one_shl]
    rfl
  · refine ⟨_, rfl, ?_⟩
    have e : (rngD (n : Int).toNat).map onesF = (Rc.ones n).map mD := by
      rw [rng_map, Int.toNat_natCast]
      unfold Rc.ones
      rw [List.map_map]
      rfl
    rw [e]
    exact hc
abbrev c_is_reached : Cn := fun K w ds Ψ Ξ => ∃ (R : List Nat) (a b : Nat), ds = [msD R, .int a, .int b] ∧ a < R.length ∧ Ψ (.fz (.bl (Rc.bit R a b)))
theorem at_ms {R : List Nat} {a : Nat} (h : a < R.length) : atI (R.map mD) (a : Int) = some (mD (R.getD a 0)) := at_nat (by
  rw [List.getElem?_map, List.getElem?_eq_getElem h, List.getD_eq_getElem?_getD, List.getElem?_eq_getElem h]
  rfl)
theorem l_is_reached : ∀ K w ds Ψ Ξ, c_is_reached K w ds Ψ Ξ → ds.length = 3 := fun K w ds Ψ Ξ h => by
  obtain ⟨_, _, _, rfl, _⟩ := h
  rfl
theorem ok_is_reached {P : Program} {w : World} {K : PySem.W.Frag} {mg : Str → Option Value} {base : Heap} {A : Ad} (T : Txt K mg A) : FnOk P w K mg base CX0 1 A.is_reached A.fd_is_reached ["reach", "a", "b"] (SpD K AnyR c_is_reached) := by
  refine Fun.ok T.F_is_reached sc_is_reached (fun vs H Q E h => spd_len (l_is_reached) h) (fun cdv A' outer s H vs Q E hr h => ⟨_, (pss_one (ps_ret (pe_cmpR op_eq (pe_op op_and (pe_op op_shr (pe_ix ix_tup (pv 0) (pv 1) (fun _ _ => rfl)) (pv 2)) pe_int) pe_int (nomark _)))), ?_⟩)
  refine body_ok 3 (by decide) (l_is_reached) h (fun Γ ds Ψ Ξ hK hX hF hc ke => ?_)
  subst hK
  obtain ⟨R, a, b, rfl, ha, hc⟩ := hc
  walk_at "rd"
  refine ⟨_, opv_ixT rfl (at_ms ha), ?_⟩
  walk_at "rd"
  refine ⟨_, opv_intC (Int.natCast_nonneg b), ?_⟩
  walk_at "rd"
  rw [Int.toNat_natCast, bit_of]
  have e : decide ((if (R.getD a 0).testBit b = true then (1 : Int) else 0) = 1) = Rc.bit R a b := by
    show _ = (R.getD a 0).testBit b
    cases (R.getD a 0).testBit b <;> rfl
  rw [e]
  exact hc
def joinF (a g : Nat) : D → D
  | .int k => mD (if k.toNat.testBit a = true then k.toNat ||| g else k.toNat)
  | _ => .non
abbrev c_joined : Cn := fun K w ds Ψ Ξ => ∃ (R : List Nat) (a b : Nat), ds = [msD R, .int a, .int b] ∧ b < R.length ∧ R.length ≤ 1000 ∧ Ψ (.fz (msD (Rc.joinedL R a b)))
theorem l_joined : ∀ K w ds Ψ Ξ, c_joined K w ds Ψ Ξ → ds.length = 3 := fun K w ds Ψ Ξ h => by
  obtain ⟨_, _, _, rfl, _⟩ := h
  rfl
theorem ok_joined {P : Program} {w : World} {K : PySem.W.Frag} {mg : Str → Option Value} {base : Heap} {A : Ad} (T : Txt K mg A) : FnOk P w K mg base CX0 1 A.joined A.fd_joined ["reach", "a", "b"] (SpD K AnyR c_joined) := by
  refine Fun.ok T.F_joined sc_joined (fun vs H Q E h => spd_len (l_joined) h) (fun cdv A' outer s H vs Q E hr h => ⟨_, (pss_cons (ps_set (i := 3) sc_joined.nd rfl (.inr rfl) (pe_ix ix_tup (pv 0) (pv 2) (fun _ _ => rfl)))
        (pss_one (ps_ret (pe_callTy call_tuple_of (by rfl) T.b_tuple (by decide +kernel) (pa_cons (pe_lc (own := [("row", 4)]) (by rfl) sc_joined.nd (pi_tup (pv 0)) (blkOk_by (own := [("row", 4)]) (N := ["reach", "a", "b", "gained", "row"]) (sc := defScope s_joined) (by decide +kernel)) (fun _ _ _ _ _ => (pg_name (i := 4) sc_joined.nd rfl (.inl rfl))) (fun _ _ _ _ _ => pts_nil) (fun _ _ _ _ _ => (pe_ifExp (by exact (show PT _ _ (fun σ H Q => (_ : TE) σ H fun x H' => ∃ k, TruV K x H' k ∧ Q k H') from (pt_truth (pe_op op_and (pe_op op_shr (pv 4) (pv 1)) pe_int) (by intro _; rfl)))) (pe_op op_or (pv 4) (pv 3)) (pv 4)))) pa_nil))))), ?_⟩)
  refine body_ok 3 (by decide) (l_joined) h (fun Γ ds Ψ Ξ hK hX hF hc ke => ?_)
  subst hK
  obtain ⟨R, a, b, rfl, hb, hl, hc⟩ := hc
  walk_at "rd"
  refine ⟨_, opv_ixT rfl (at_ms hb), ?_⟩
  walk_at "rd"
  refine ⟨(fun es z => by cases z), by rw [List.length_map]; omega, joinF a (R.getD b 0), fun x hx c => ?_, ?_⟩
  · obtain ⟨m, hm, rfl⟩ := List.mem_map.mp hx
    walk_at "rd"
    refine ⟨_, opv_intC (Int.natCast_nonneg a), ?_⟩
    walk_at "rd"
    rw [Int.toNat_natCast, bit_of]
    have e : ((if m.testBit a = true then (1 : Int) else 0) != 0) = m.testBit a := by cases m.testBit a <;> rfl
    rw [e]
    refine ⟨fun h1 => ?_, fun h1 => ?_⟩
    · walk_at "rd"
      refine ⟨rfl, ?_⟩
      rw [bor_of]
      show _ = mD (if m.testBit a = true then m ||| R.getD b 0 else m)
      rw [if_pos h1]
      rfl
    · walk_at "rd"
      refine ⟨rfl, ?_⟩
      show _ = mD (if m.testBit a = true then m ||| R.getD b 0 else m)
      rw [if_neg (by rw [h1]; decide)]
  · refine ⟨_, rfl, ?_⟩
    have e : (R.map mD).map (joinF a (R.getD b 0)) = (Rc.joinedL R a b).map mD := by
      unfold Rc.joinedL
      rw [List.map_map, List.map_map]
      rfl
    rw [e]
    exact hc
/-- pairs of numbers below n -/
def PairsOk (n : Nat) (E : List (Nat × Nat)) : Prop := ∀ p ∈ E, p.1 < n ∧ p.2 < n
@[reducible] def prD (p : Nat × Nat) : D := .tup [.int p.1, .int p.2]
abbrev c_reach_along : Cn := fun K w ds Ψ Ξ => ∃ (n : Nat) (E : List (Nat × Nat)), ds = [.int n, .lst (E.map prD)] ∧ n ≤ 1000 ∧ PairsOk n E ∧ Ψ (.fz (msD (Rc.reachL n E)))
theorem joined_len {R : List Nat} {a b : Nat} : (Rc.joinedL R a b).length = R.length := by
  unfold Rc.joinedL
  rw [List.length_map]
theorem fold_len : ∀ {E : List (Nat × Nat)} {R : List Nat}, (E.foldl (fun R p => Rc.joinedL R p.1 p.2) R).length = R.length
  | [], _ => rfl
  | p :: E, R => (fold_len (E := E) (R := Rc.joinedL R p.1 p.2)).trans joined_len
theorem l_reach_along : ∀ K w ds Ψ Ξ, c_reach_along K w ds Ψ Ξ → ds.length = 2 := fun K w ds Ψ Ξ h => by
  obtain ⟨_, _, rfl, _⟩ := h
  rfl
theorem ok_reach_along {P : Program} {w : World} {K : PySem.W.Frag} {mg : Str → Option Value} {base : Heap} {A : Ad} (T : Txt K mg A) : FnOk P w K mg base CX0 2 A.reach_along A.fd_reach_along ["size", "arrows"] (SpD K AnyR c_reach_along) := by
  refine Fun.ok T.F_reach_along sc_reach_along (fun vs H Q E h => spd_len (l_reach_along) h) (fun cdv A' outer s H vs Q E hr h => ⟨_, (pss_cons (ps_set (i := 2) sc_reach_along.nd rfl (.inl rfl) (pe_call (ok_nothing_joined T) (hr.mono (by decide)) (by rfl) T.m_nothing_joined T.F_nothing_joined.kp (b_nothing_joined T) .nil pass0 (pa_cons (pv 0) pa_nil)))
        (pss_cons (ps_for PassesOwn.never rfl (pi_list (pv 1)) (pg_tup (by rfl) (pgs_cons (pg_name (i := 3) sc_reach_along.nd rfl (.inl rfl)) (pgs_cons (pg_name (i := 4) sc_reach_along.nd rfl (.inl rfl)) pgs_nil))) (pss_one (ps_set (i := 2) sc_reach_along.nd rfl (.inl rfl) (pe_call (ok_joined T) (hr.mono (by decide)) (by rfl) T.m_joined T.F_joined.kp (b_joined T) .nil pass0 (pa_cons (pv 2) (pa_cons (pv 3) (pa_cons (pv 4) pa_nil)))))))
        (pss_one (ps_ret (pv 2))))), ?_⟩)
  refine body_ok 2 (by decide) (l_reach_along) h (fun Γ ds Ψ Ξ hK hX hF hc ke => ?_)
  subst hK
  obtain ⟨n, E, rfl, hn, hE, hc⟩ := hc
  refine sw_seq (sw_asg ?_)
  walk_at "ru"
  refine ⟨hn, ?_⟩
  refine sw_seq (sw_forL rfl (ew_var rfl ⟨_, rfl, fun i ρ => ∃ c3 c4, ρ = [some (.fz (.int n)), some (.fz (.lst (E.map prD))), some (.fz (msD ((E.take i).foldl (fun R p => Rc.joinedL R p.1 p.2) (Rc.ones n)))), c3, c4], ⟨_, _, rfl⟩, ?_, ?_⟩))
  · rintro i x ρ2 hx ⟨c3, c4, rfl⟩
    obtain ⟨p, hp, rfl⟩ := item_map hx
    obtain ⟨p1, p2⟩ := hE p (List.mem_of_getElem? hp)
    refine ⟨_, gd_pair rfl rfl gd_name gd_name, ?_⟩
    walk_at "rd"
    have hl : ((E.take i).foldl (fun R p => Rc.joinedL R p.1 p.2) (Rc.ones n)).length = n := by rw [fold_len, Rc.ones_len]
    refine ⟨by omega, by omega, ?_⟩
    refine ⟨some (.fz (.int p.1)), some (.fz (.int p.2)), ?_⟩
    rw [get_take hp, List.foldl_append]
    rfl
  · rintro ρ2 ⟨c3, c4, rfl⟩
    have e : E.take (E.map prD).length = E := by rw [List.length_map, List.take_length]
    rw [e]
    exact sw_ret (ew_var rfl hc)
abbrev c_has_ring : Cn := fun K w ds Ψ Ξ => ∃ (R : List Nat) (E : List (Nat × Nat)), ds = [msD R, .lst (E.map prD)] ∧ E.length ≤ 1000 ∧ PairsOk R.length E ∧ Ψ (.fz (.bl (E.any fun p => Rc.bit R p.2 p.1)))
def ringF (R : List Nat) : D → D
  | .tup [.int a, .int b] => .bl (Rc.bit R b.toNat a.toNat)
  | _ => .non
theorem l_has_ring : ∀ K w ds Ψ Ξ, c_has_ring K w ds Ψ Ξ → ds.length = 2 := fun K w ds Ψ Ξ h => by
  obtain ⟨_, _, rfl, _⟩ := h
  rfl
theorem ok_has_ring {P : Program} {w : World} {K : PySem.W.Frag} {mg : Str → Option Value} {base : Heap} {A : Ad} (T : Txt K mg A) : FnOk P w K mg base CX0 2 A.has_ring A.fd_has_ring ["reach", "arrows"] (SpD K AnyR c_has_ring) := by
  refine Fun.ok T.F_has_ring sc_has_ring (fun vs H Q E h => spd_len (l_has_ring) h) (fun cdv A' outer s H vs Q E hr h => ⟨_, (pss_one (ps_ret (pe_callB (cr_any rfl) (by rfl) T.b_any (by decide +kernel) (pa_cons (pe_lc (own := [("a", 2), ("b", 3)]) (by rfl) sc_has_ring.nd (pi_list (pv 1)) (blkOk_by (own := [("a", 2), ("b", 3)]) (N := ["reach", "arrows", "a", "b"]) (sc := defScope s_has_ring) (by decide +kernel)) (fun _ _ _ _ _ => (by exact (show PG _ _ (gTup K 2 _) from (pg_tup (by rfl) (pgs_cons (pg_name (i := 2) sc_has_ring.nd rfl (.inl rfl)) (pgs_cons (pg_name (i := 3) sc_has_ring.nd rfl (.inl rfl)) pgs_nil)))))) (fun _ _ _ _ _ => pts_nil) (fun _ _ _ _ _ => (pe_call (ok_is_reached T) (hr.mono (by decide)) (by rfl) T.m_is_reached T.F_is_reached.kp (b_is_reached T) .nil pass0 (pa_cons (pv 0) (pa_cons (pv 3) (pa_cons (pv 2) pa_nil)))))) pa_nil)))), ?_⟩)
  refine body_ok 2 (by decide) (l_has_ring) h (fun Γ ds Ψ Ξ hK hX hF hc ke => ?_)
  subst hK
  obtain ⟨R, E, rfl, hl, hE, hc⟩ := hc
  refine sw_ret (ew_cb (aw_cons (ew_of_eb (eb_map2L rfl rfl rfl rfl (by decide) (ew_var rfl ⟨_, rfl, (fun es z => by cases z), (fun es z => by cases z), by rw [List.length_map]; omega, ringF R, fun x hx => ?_, ?_⟩)))))
  · obtain ⟨p, hp, rfl⟩ := List.mem_map.mp hx
    obtain ⟨p1, p2⟩ := hE p hp
    refine ⟨_, _, rfl, fun c => ?_⟩
    walk_at "rd"
    exact ⟨p2, rfl, rfl⟩
  · have e : (E.map prD).map (ringF R) = E.map fun p => D.bl (Rc.bit R p.2 p.1) := by
      rw [List.map_map]
      rfl
    rw [e]
    walk_at "rd"
    exact hc
end Pf

namespace Pf
open PySem L2 Dl Sh
open Evl (Ex)
local macro_rules | `(tactic| walk_at "r0") => `(tactic| with_reducible first
  | refine sw_seq ?_
  | refine ew_var rfl ?_
  | refine ew_int ?_
  | refine ew_bl ?_
  | refine ew_non ?_
  | refine ew_str ?_
  | refine aw_cons ?_
  | refine aw_nil ?_
  | refine sw_par ?_
  | refine sw_next ?_
  | refine sw_if ?_
  | refine sw_ret ?_
  | refine tw_not ?_
  | refine tw_and ?_
  | refine tw_or ?_
  | refine tw_test ?_
  | refine tw_B ?_
  | refine tw_tru rfl ?_
  | refine ew_andV ?_
  | refine ew_orV ?_
  | refine ew_notV ?_
  | refine ew_if ?_
  | refine ew_chain ?_
  | refine ew_isN ?_
  | refine ew_tup ?_
  | refine ew_lst ?_
  | refine ew_isiD isN_int rfl ?_
  | refine ew_isiD isN_bool rfl ?_
  | refine ew_isiD isN_tuple rfl ?_
  | refine ew_isiD isN_list rfl ?_
  | refine ew_isiD isN_str rfl ?_
  | refine ew_isi2D isN_list isN_tuple rfl ?_
  | refine ew_isi2D isN_tuple isN_list rfl ?_
  | refine ew_cb ?_
  | refine ew_neg ?_
  | refine ew_op ?_
  | refine ⟨_, opv_int, ?_⟩
  | refine ⟨_, opv_cmp, ?_⟩
  | refine ⟨_, opv_eq, ?_⟩
  | refine ⟨_, opv_ne, ?_⟩
  | refine ⟨_, opv_eqB, ?_⟩
  | refine ⟨_, opv_eqS, ?_⟩
  | refine ⟨_, cbv_abs, ?_⟩
  | refine ⟨_, cbv_max2, ?_⟩
  | refine ⟨_, cbv_min2, ?_⟩
  | refine pw_none ?_
  | refine pw_some ?_
  | refine ⟨_, cbv_int, ?_⟩
  | refine ⟨_, rfl, ?_⟩
  | refine ⟨_, _, rfl, ?_⟩
  | refine ⟨_, _, _, rfl, ?_⟩
  | refine ⟨_, _, _, _, rfl, ?_⟩
  | refine br_t ?_
  | refine br_f ?_
  | refine ⟨dt_int, ?_⟩
  | refine ⟨dt_bl, ?_⟩
  | refine ⟨dt_str, ?_⟩
  | refine ⟨dt_non, ?_⟩
  | refine ⟨dt_tup, ?_⟩
  | refine ⟨dt_lst, ?_⟩
  | refine sw_asg ?_
  | refine sw_drop ?_)
local macro_rules | `(tactic| walk_at "r1") => `(tactic| first
  | ((with_reducible refine ew_tupL ?hK ?_); (case hK => rfl))
  | ((with_reducible refine ew_catT ?hK ?_); (case hK => rfl))
  | ((with_reducible refine ew_repT ?hK ?_); (case hK => rfl))
  | ((with_reducible refine ew_of_eb (eb_listL ?hK ?_)); (case hK => rfl))
  | ((with_reducible refine ew_of_eb (eb_cutL ?hK ?_)); (case hK => rfl))
  | walk_at "r0"
  | ((with_reducible refine ew_of_eb (eb_mapT ?hV ?hK ?_)); (case hK => rfl); (case hV => rfl))
  | ((with_reducible refine ew_of_eb (eb_mapL ?hV ?hK ?_)); (case hK => rfl); (case hV => rfl))
  | ((with_reducible refine ew_of_eb (eb_mapR ?hV ?_)); (case hV => rfl))
  | ((with_reducible refine ew_callP ?hK trivial ?_); (case hK => rfl))
  | ((with_reducible refine ew_callW ?hK trivial ?_); (case hK => rfl))
  | ((with_reducible refine ew_callH ?hK trivial ?_); (case hK => rfl))
  | ((with_reducible refine ew_callR ?hK ?hF ?_); (case hK => rfl); (case hF => assumption))
  | ((with_reducible refine len_ok ?hK ?_); (case hK => rfl))
  | ((with_reducible refine ew_notT ?hK ?_); (case hK => rfl))
  | ((with_reducible refine ew_cutT ?hK ?_); (case hK => rfl))
  | ((with_reducible refine ⟨(?hK : Dt _ _), ?_⟩); (case hK => assumption))
  | ((with_reducible refine sw_unp2 ?hK ?hn ?_); (case hK => rfl); (case hn => rfl)))
local macro_rules | `(tactic| walk_at "side") => `(tactic| first
  | exact Or.inr (by decide)
  | exact Or.inl (by decide)
  | exact ⟨by decide, by decide⟩
  | exact ⟨by decide, by decide, by decide⟩
  | decide
  | (dsimp only; decide)
  | exact mw (by assumption) (by assumption))
local macro_rules | `(tactic| walk_at "r2") => `(tactic| first
  | walk_at "r1"
  | ((with_reducible refine ⟨_, opv_intC ?hC, ?_⟩); (case hC => walk_at "side"))
  | ((with_reducible refine ⟨_, cbv_lenL ?hK, ?_⟩); (case hK => rfl))
  | ((with_reducible refine ⟨_, cbv_allM ?hK, ?_⟩); (case hK => rfl))
  | ((with_reducible refine ⟨_, cbv_anyM ?hK, ?_⟩); (case hK => rfl))
  | ((with_reducible refine ⟨_, cbv_sumM ?hK, ?_⟩); (case hK => rfl))
  | ((with_reducible refine ⟨_, cbv_lenT ?hK, ?_⟩); (case hK => rfl))
  | (with_reducible refine ⟨_, opv_ixT (by with_unfolding_all rfl) (by with_unfolding_all rfl), ?_⟩)
  | refine br_t ?_
  | refine br_f ?_)
local macro_rules | `(tactic| walk_at "rd") => `(tactic| repeat (walk_at "r2"))
local macro_rules | `(tactic| walk_at "rs") => `(tactic| repeat ((fail_if_success (with_reducible refine sw_isif ?_)); walk_at "r2"))
local macro_rules | `(tactic| walk_at "nf") => `(tactic| (try simp only [List.set_cons_zero, List.set_cons_succ, Dl.sets, Dl.asD]))
local macro_rules | `(tactic| walk_at "ru") => `(tactic| repeat ((fail_if_success (with_reducible refine sw_seq ?_)); walk_at "r2"))

theorem beq_dec {a i : Int} : (a == i) = decide (i = a) := by
  by_cases h : i = a
  · rw [decide_eq_true h, h]
    exact beq_self_eq_true a
  · rw [decide_eq_false h]
    exact beq_false_of_ne (Ne.symm h)
def isWayD : D → Bool | .int i => decide (i = 1) || decide (i = -1) | _ => false
def isDirD (m : Nat) : D → Bool | .tup xs => decide (xs.length = m) && xs.all isWayD | _ => false
abbrev c_is_direction (A : Ad) : Cn := fun K w ds Ψ Ξ => ∃ n ts d, ds = [webD A n ts, d] ∧ Dt1 K d ∧ Ψ (.fz (.bl (isDirD ts.length d)))
theorem l_is_direction (A : Ad) : ∀ K w ds Ψ Ξ, (c_is_direction A) K w ds Ψ Ξ → ds.length = 2 := fun K w ds Ψ Ξ h => by
  obtain ⟨_, _, _, rfl, _⟩ := h
  rfl
theorem ok_is_direction {P : Program} {w : World} {K : PySem.W.Frag} {mg : Str → Option Value} {base : Heap} {A : Ad} (T : Txt K mg A) : FnOk P w K mg base CX0 2 A.is_direction A.fd_is_direction ["web", "value"] (SpD K AnyR (c_is_direction A)) := by
  refine Fun.ok T.F_is_direction sc_is_direction (fun vs H Q E h => spd_len (l_is_direction A) h) (fun cdv A' outer s H vs Q E hr h => ⟨_, (pss_cons (ps_if (PW.pt (pw_or (pt_not (pt_val (pe_callB call_isi (by rfl) T.b_isinstance (by decide +kernel) (pa_cons (pv 1) (pa_cons (pe_bltn (v := .ty "tuple") (by rfl) T.b_tuple (by decide +kernel) rfl) pa_nil))))) (pw_or1 (pt_cmpR op_ne (pe_callB call_len_seq (by rfl) T.b_len (by decide +kernel) (pa_cons (pv 1) pa_nil)) (pe_callB call_len_seq (by rfl) T.b_len (by decide +kernel) (pa_cons (pe_fld (pv 0) rfl) pa_nil)) (nomark _))))) (pss_one (ps_ret pe_bl)) pss_nil)
        (pss_one (ps_ret (pe_callB (cr_all rfl) (by rfl) T.b_all (by decide +kernel) (pa_cons (pe_lc (own := [("way", 2)]) (by rfl) sc_is_direction.nd (pi_tup (pv 1)) (blkOk_by (own := [("way", 2)]) (N := ["web", "value", "way"]) (sc := defScope s_is_direction) (by decide +kernel)) (fun _ _ _ _ _ => (pg_name (i := 2) sc_is_direction.nd rfl (.inl rfl))) (fun _ _ _ _ _ => pts_nil) (fun _ _ _ _ _ => (pe_and (pe_call (ok_is_integer T) (hr.mono (by decide)) (by rfl) T.m_is_integer T.F_is_integer.kp (b_is_integer T) .nil pass0 (pa_cons (pv 2) pa_nil)) (pe_one (pe_cmpR (by exact (show OpR _ _ (rIn K false) from op_in_seq)) (pv 2) (pe_tup (pa_cons pe_int (pa_cons (pe_un un_neg pe_int) pa_nil))) (by rfl)))))) pa_nil))))), ?_⟩)
  refine body_ok 2 (by decide) (l_is_direction A) h (fun Γ ds Ψ Ξ hK hX hF hc ke => ?_)
  subst hK
  obtain ⟨n, ts, d, rfl, ⟨hd, hx⟩, hc⟩ := hc
  walk_at "rd"
  refine ⟨fun h1 => ?_, fun h1 => ?_⟩
  · refine br_t ?_
    walk_at "rd"
    have e : false = isDirD ts.length d := by cases d <;> first | rfl | cases h1
    rw [e]
    exact hc
  · cases d <;> first | (cases h1; done) | skip
    rename_i xs
    obtain ⟨hl, hx⟩ := hx xs rfl
    walk_at "rd"
    refine ew_fld rfl (ew_var rfl ⟨_, _, _, rfl, T.cl_Web, T.no_Web_ties, rfl, ?_⟩)
    walk_at "rd"
    rw [List.length_map]
    refine ⟨fun h2 => ?_, fun h2 => ?_⟩
    · walk_at "rd"
      have h3 : ¬ xs.length = ts.length := fun z => by
        rw [z] at h2
        simp at h2
      have e : false = isDirD ts.length (.tup xs) := by
        show _ = (decide (xs.length = ts.length) && _)
        rw [decide_eq_false h3, Bool.false_and]
      rw [e]
      exact hc
    · walk_at "rd"
      refine ⟨(fun es z => by cases z), hl, fun x => .bl (isWayD x), fun x hx' c => ?_, ?_⟩
      · have hd' := hx x hx'
        walk_at "rd"
        refine ⟨fun h3 => ?_, fun h3 => ?_⟩
        · obtain ⟨i, rfl⟩ := int_of h3
          walk_at "rd"
          refine ⟨_, opv_inT rfl rfl rfl, rfl, ?_⟩
          show D.bl (((1 : Int) == i) || (((-1 : Int) == i) || false)) = .bl (decide (i = 1) || decide (i = -1))
          rw [Bool.or_false, beq_dec, beq_dec]
        · have e : false = isWayD x := by cases x <;> first | rfl | cases h3
          exact ⟨rfl, by rw [e]⟩
      · walk_at "rd"
        have h3 : xs.length = ts.length := by
          have := not_ff (b := decide ((xs.length : Int) = (ts.length : Int))) h2
          have := of_decide_eq_true this
          omega
        have e : xs.all isWayD = isDirD ts.length (.tup xs) := by
          show _ = (decide (xs.length = ts.length) && _)
          rw [decide_eq_true h3, Bool.true_and]
        rw [e]
        exact hc
theorem ok_InvalidArrangement__init {P : Program} {w : World} {K : PySem.W.Frag} {mg : Str → Option Value} {base : Heap} {A : Ad} (T : Txt K mg A) : FnOk P w K mg base CX0 1 A.InvalidArrangement__init A.fd_InvalidArrangement__init ["self", "value"] (spInit K A.c_InvalidArrangement "value") := by
  refine T.F_InvalidArrangement__init.ok sc_InvalidArrangement__init (fun vs H Q E h => by obtain ⟨_, _, rfl, _⟩ := h; rfl) (fun cdv A' outer s H vs Q E hr h => ⟨_, (pss_one (ps_ost (pv 0) (pv 1))), body_init T.ox_InvalidArrangement T.no_InvalidArrangement_value rfl h⟩)
abbrev c_check_direction (A : Ad) : Cn := fun K w ds Ψ Ξ => ∃ n ts d, ds = [webD A n ts, d] ∧ Dt1 K d ∧ isDirD ts.length d = true ∧ Ψ (.fz .non)
theorem l_check_direction (A : Ad) : ∀ K w ds Ψ Ξ, (c_check_direction A) K w ds Ψ Ξ → ds.length = 2 := fun K w ds Ψ Ξ h => by
  obtain ⟨_, _, _, rfl, _⟩ := h
  rfl
theorem ok_check_direction {P : Program} {w : World} {K : PySem.W.Frag} {mg : Str → Option Value} {base : Heap} {A : Ad} (T : Txt K mg A) : FnOk P w K mg base (L2N.CX P w) 3 A.check_direction A.fd_check_direction ["web", "direction"] (SpD K AnyR (c_check_direction A)) := by
  refine okN T.F_check_direction sc_check_direction (fun vs H Q E h => spd_len (l_check_direction A) h) (fun cdv A' outer s H vs Q E hr h => ⟨_, (pss_one (ps_if (pt_not (pt_val (pe_call (ok_is_direction T) (hr.mono (by decide)) (by rfl) T.m_is_direction T.F_is_direction.kp (b_is_direction T) .nil pass0 (pa_cons (pv 0) (pa_cons (pv 1) pa_nil))))) (pss_one (L2N.ps_raise rfl (L2N.takes_of rfl rfl rfl rfl) (made_own T.ox_InvalidArrangement T.i_InvalidArrangement T.t_InvalidArrangement (ok_InvalidArrangement__init T) (hr.mono (by decide)) (b_InvalidArrangement__init T) (fun _ _ _ _ _ _ _ h => h.elim) (by rfl) T.m_InvalidArrangement (pa_cons (pv 1) pa_nil)))) pss_nil)), ?_⟩)
  refine body_ok 2 (by decide) (l_check_direction A) h (fun Γ ds Ψ Ξ hK hX hF hc ke => ?_)
  subst hK
  obtain ⟨n, ts, d, rfl, hd, h1, hc⟩ := hc
  walk_at "rd"
  refine ⟨hd, ?_⟩
  rw [h1]
  walk_at "rd"
  exact hc
/-- the arrows, by numbers -/
def arrN (ts : List (Int × Int)) (ws : List Int) : List (Nat × Nat) := (arrowsL ts ws).map fun p => (p.1.toNat, p.2.toNat)
theorem arr_in {n : Int} {ts : List (Int × Int)} {ws : List Int} (ht : TiesOk n ts) {p : Int × Int} (hp : p ∈ arrowsL ts ws) : 0 ≤ p.1 ∧ p.1 < n ∧ 0 ≤ p.2 ∧ p.2 < n := by
  obtain ⟨z, hz, rfl⟩ := List.mem_map.mp hp
  obtain ⟨h0, h1, h2⟩ := ht z.1 (List.of_mem_zip hz).1
  unfold arrowP
  split
  · exact ⟨h0, by omega, by omega, h2⟩
  · exact ⟨by show 0 ≤ z.1.2; omega, h2, h0, by show z.1.1 < n; omega⟩
theorem arr_prD {n : Int} {ts : List (Int × Int)} {ws : List Int} (ht : TiesOk n ts) : (arrowsL ts ws).map shD = (arrN ts ws).map prD := by
  unfold arrN
  rw [List.map_map]
  apply List.map_congr_left
  intro p hp
  obtain ⟨h0, _, h2, _⟩ := arr_in ht hp
  show D.tup [.int p.1, .int p.2] = .tup [.int (p.1.toNat : Int), .int (p.2.toNat : Int)]
  rw [Int.toNat_of_nonneg h0, Int.toNat_of_nonneg h2]
theorem arr_ok {n : Int} {ts : List (Int × Int)} {ws : List Int} (ht : TiesOk n ts) : PairsOk n.toNat (arrN ts ws) := fun q hq => by
  obtain ⟨p, hp, rfl⟩ := List.mem_map.mp hq
  obtain ⟨h0, h1, h2, h3⟩ := arr_in ht hp
  exact ⟨by show p.1.toNat < _; omega, by show p.2.toNat < _; omega⟩
theorem arr_len {ts : List (Int × Int)} {ws : List Int} (h : ts.length = ws.length) : (arrN ts ws).length = ts.length := by
  unfold arrN arrowsL
  rw [List.length_map, List.length_map, List.length_zip]
  omega
theorem reach_len {n : Nat} {E : List (Nat × Nat)} : (Rc.reachL n E).length = n := by
  unfold Rc.reachL
  rw [fold_len, Rc.ones_len]
/-- a row of ways, for a web -/
structure DirOk (n : Int) (ts : List (Int × Int)) (ws : List Int) : Prop where
  n0 : 0 ≤ n
  n1 : n ≤ 1000
  ht : TiesOk n ts
  hl : ts.length = ws.length
  hb : ts.length ≤ 1000
  hw : ∀ u ∈ ws, u = 1 ∨ u = -1
theorem dirok_is {n : Int} {ts : List (Int × Int)} {ws : List Int} (h : DirOk n ts ws) : isDirD ts.length (.tup (ws.map D.int)) = true := by
  show (decide ((ws.map D.int).length = ts.length) && (ws.map D.int).all isWayD) = true
  rw [List.length_map, decide_eq_true h.hl.symm, Bool.true_and, List.all_map]
  refine List.all_eq_true.mpr fun u hu => ?_
  rcases h.hw u hu with rfl | rfl <;> rfl
theorem dt1_ints {K : PySem.W.Frag} {row : List Int} (h : row.length ≤ 99999) : Dt1 K (.tup (row.map D.int)) := ⟨dt_tup, fun xs e => by
  cases e
  refine ⟨by rw [List.length_map]; exact h, fun y hy => ?_⟩
  obtain ⟨i, _, rfl⟩ := List.mem_map.mp hy
  exact dt_int⟩
def ringB (n : Int) (ts : List (Int × Int)) (ws : List Int) (p : Nat × Nat) : Bool := Rc.bit (Rc.reachL n.toNat (arrN ts ws)) p.2 p.1
abbrev c_is_ringless (A : Ad) : Cn := fun K w ds Ψ Ξ => ∃ n ts ws, ds = [webD A n ts, .tup (ws.map D.int)] ∧ DirOk n ts ws ∧ Ψ (.fz (.bl (!((arrN ts ws).any (ringB n ts ws)))))
theorem l_is_ringless (A : Ad) : ∀ K w ds Ψ Ξ, (c_is_ringless A) K w ds Ψ Ξ → ds.length = 2 := fun K w ds Ψ Ξ h => by
  obtain ⟨_, _, _, rfl, _⟩ := h
  rfl
theorem ok_is_ringless {P : Program} {w : World} {K : PySem.W.Frag} {mg : Str → Option Value} {base : Heap} {A : Ad} (T : Txt K mg A) : FnOk P w K mg base CX0 4 A.is_ringless A.fd_is_ringless ["web", "direction"] (SpD K AnyR (c_is_ringless A)) := by
  refine Fun.ok T.F_is_ringless sc_is_ringless (fun vs H Q E h => spd_len (l_is_ringless A) h) (fun cdv A' outer s H vs Q E hr h => ⟨_, (pss_cons (ps_expr (pe_call (ok_check_direction T) (hr.mono (by decide)) (by rfl) T.m_check_direction T.F_check_direction.kp (b_check_direction T) .nil passLN (pa_cons (pv 0) (pa_cons (pv 1) pa_nil))))
        (pss_cons (ps_set (i := 2) sc_is_ringless.nd rfl (.inl rfl) (pe_call (ok_arrows_of T) (hr.mono (by decide)) (by rfl) T.m_arrows_of T.F_arrows_of.kp (b_arrows_of T) .nil pass0 (pa_cons (pe_fld (pv 0) rfl) (pa_cons (pv 1) pa_nil))))
        (pss_one (ps_ret (pe_not (pe_call (ok_has_ring T) (hr.mono (by decide)) (by rfl) T.m_has_ring T.F_has_ring.kp (b_has_ring T) .nil pass0 (pa_cons (pe_call (ok_reach_along T) (hr.mono (by decide)) (by rfl) T.m_reach_along T.F_reach_along.kp (b_reach_along T) .nil pass0 (pa_cons (pe_fld (pv 0) rfl) (pa_cons (pv 2) pa_nil))) (pa_cons (pv 2) pa_nil)))))))), ?_⟩)
  refine body_ok 2 (by decide) (l_is_ringless A) h (fun Γ ds Ψ Ξ hK hX hF hc ke => ?_)
  subst hK
  obtain ⟨n, ts, ws, rfl, hd, hc⟩ := hc
  have n0 := hd.n0
  have n1 := hd.n1
  have hl := hd.hl
  have hb := hd.hb
  walk_at "rd"
  refine ⟨dt1_ints (by omega), dirok_is hd, ?_⟩
  walk_at "rd"
  refine ew_fld rfl (ew_var rfl ⟨_, _, _, rfl, T.cl_Web, T.no_Web_ties, rfl, ?_⟩)
  walk_at "rd"
  refine ⟨hl, hb, ?_⟩
  rw [arr_prD hd.ht]
  walk_at "rd"
  refine ew_fld rfl (ew_var rfl ⟨_, _, _, rfl, T.cl_Web, T.no_Web_size, rfl, ?_⟩)
  obtain ⟨m, rfl⟩ := Int.eq_ofNat_of_zero_le n0
  walk_at "rd"
  refine ⟨by omega, arr_ok hd.ht, ?_⟩
  walk_at "rd"
  refine ⟨by rw [arr_len hl]; exact hb, by rw [reach_len]; exact arr_ok hd.ht, ?_⟩
  walk_at "rd"
  exact hc
abbrev c_is_round (A : Ad) : Cn := fun K w ds Ψ Ξ => ∃ n ts ws, ds = [webD A n ts, .tup (ws.map D.int)] ∧ DirOk n ts ws ∧ Ψ (.fz (.bl ((arrN ts ws).all (ringB n ts ws))))
theorem l_is_round (A : Ad) : ∀ K w ds Ψ Ξ, (c_is_round A) K w ds Ψ Ξ → ds.length = 2 := fun K w ds Ψ Ξ h => by
  obtain ⟨_, _, _, rfl, _⟩ := h
  rfl
theorem ok_is_round {P : Program} {w : World} {K : PySem.W.Frag} {mg : Str → Option Value} {base : Heap} {A : Ad} (T : Txt K mg A) : FnOk P w K mg base CX0 4 A.is_round A.fd_is_round ["web", "direction"] (SpD K AnyR (c_is_round A)) := by
  refine Fun.ok T.F_is_round sc_is_round (fun vs H Q E h => spd_len (l_is_round A) h) (fun cdv A' outer s H vs Q E hr h => ⟨_, (pss_cons (ps_expr (pe_call (ok_check_direction T) (hr.mono (by decide)) (by rfl) T.m_check_direction T.F_check_direction.kp (b_check_direction T) .nil passLN (pa_cons (pv 0) (pa_cons (pv 1) pa_nil))))
        (pss_cons (ps_set (i := 2) sc_is_round.nd rfl (.inl rfl) (pe_call (ok_arrows_of T) (hr.mono (by decide)) (by rfl) T.m_arrows_of T.F_arrows_of.kp (b_arrows_of T) .nil pass0 (pa_cons (pe_fld (pv 0) rfl) (pa_cons (pv 1) pa_nil))))
        (pss_cons (ps_set (i := 3) sc_is_round.nd rfl (.inr rfl) (pe_call (ok_reach_along T) (hr.mono (by decide)) (by rfl) T.m_reach_along T.F_reach_along.kp (b_reach_along T) .nil pass0 (pa_cons (pe_fld (pv 0) rfl) (pa_cons (pv 2) pa_nil))))
        (pss_one (ps_ret (pe_callB (cr_all rfl) (by rfl) T.b_all (by decide +kernel) (pa_cons (pe_lc (own := [("a", 4), ("b", 5)]) (by rfl) sc_is_round.nd (pi_list (pv 2)) (blkOk_by (own := [("a", 4), ("b", 5)]) (N := ["web", "direction", "arrows", "reach", "a", "b"]) (sc := defScope s_is_round) (by decide +kernel)) (fun _ _ _ _ _ => (by exact (show PG _ _ (gTup K 2 _) from (pg_tup (by rfl) (pgs_cons (pg_name (i := 4) sc_is_round.nd rfl (.inl rfl)) (pgs_cons (pg_name (i := 5) sc_is_round.nd rfl (.inl rfl)) pgs_nil)))))) (fun _ _ _ _ _ => pts_nil) (fun _ _ _ _ _ => (pe_call (ok_is_reached T) (hr.mono (by decide)) (by rfl) T.m_is_reached T.F_is_reached.kp (b_is_reached T) .nil pass0 (pa_cons (pv 3) (pa_cons (pv 5) (pa_cons (pv 4) pa_nil)))))) pa_nil))))))), ?_⟩)
  refine body_ok 2 (by decide) (l_is_round A) h (fun Γ ds Ψ Ξ hK hX hF hc ke => ?_)
  subst hK
  obtain ⟨n, ts, ws, rfl, hd, hc⟩ := hc
  have n0 := hd.n0
  have n1 := hd.n1
  have hl := hd.hl
  have hb := hd.hb
  walk_at "rd"
  refine ⟨dt1_ints (by omega), dirok_is hd, ?_⟩
  walk_at "rd"
  refine ew_fld rfl (ew_var rfl ⟨_, _, _, rfl, T.cl_Web, T.no_Web_ties, rfl, ?_⟩)
  walk_at "rd"
  refine ⟨hl, hb, ?_⟩
  rw [arr_prD hd.ht]
  walk_at "rd"
  refine ew_fld rfl (ew_var rfl ⟨_, _, _, rfl, T.cl_Web, T.no_Web_size, rfl, ?_⟩)
  obtain ⟨m, rfl⟩ := Int.eq_ofNat_of_zero_le n0
  walk_at "rd"
  refine ⟨by omega, arr_ok hd.ht, ?_⟩
  refine sw_ret (ew_cb (aw_cons (ew_of_eb (eb_map2L rfl rfl rfl rfl (by decide) (ew_var rfl ⟨_, rfl, (fun es z => by cases z), (fun es z => by cases z), by rw [List.length_map, arr_len hl]; omega, ringF (Rc.reachL ((m : Nat) : Int).toNat (arrN ts ws)), fun x hx => ?_, ?_⟩)))))
  · obtain ⟨p, hp, rfl⟩ := List.mem_map.mp hx
    obtain ⟨p1, p2⟩ := arr_ok hd.ht p hp
    refine ⟨_, _, rfl, fun c => ?_⟩
    walk_at "rd"
    exact ⟨by rw [reach_len]; exact p2, rfl, rfl⟩
  · have e : ((arrN ts ws).map prD).map (ringF (Rc.reachL ((m : Nat) : Int).toNat (arrN ts ws))) = (arrN ts ws).map fun p => D.bl (ringB (m : Int) ts ws p) := by
      rw [List.map_map]
      rfl
    rw [e]
    walk_at "rd"
    exact hc
/-- how many arrows end at each node -/
def endsL (n : Nat) (E : List (Nat × Nat)) : List Int := (List.range n).map fun v => ((E.countP fun p => decide (p.2 = v) : Nat) : Int)
theorem ends_len {n : Nat} {E : List (Nat × Nat)} : (endsL n E).length = n := by
  unfold endsL
  rw [List.length_map, List.length_range]
theorem ends_at {n : Nat} {E : List (Nat × Nat)} {v : Nat} (h : v < n) : (endsL n E).getD v 0 = ((E.countP fun p => decide (p.2 = v) : Nat) : Int) := by
  unfold endsL
  rw [List.getD_eq_getElem?_getD, List.getElem?_map, List.getElem?_range h]
  rfl
theorem ends_more {n : Nat} {E : List (Nat × Nat)} {p : Nat × Nat} (h : p.2 < n) : (endsL n E).set p.2 ((endsL n E).getD p.2 0 + 1) = endsL n (E ++ [p]) := by
  apply List.ext_getElem?
  intro j
  rw [List.getElem?_set, ends_len]
  by_cases hj : j < n
  · have e2 : (endsL n (E ++ [p]))[j]? = some (((E.countP fun p => decide (p.2 = j) : Nat) : Int) + if p.2 = j then 1 else 0) := by
      unfold endsL
      rw [List.getElem?_map, List.getElem?_range hj]
      show some (((E ++ [p]).countP _ : Nat) : Int) = _
      rw [List.countP_append, List.countP_cons, List.countP_nil]
      by_cases c : p.2 = j
      · rw [if_pos (decide_eq_true c), if_pos c]
        rfl
      · rw [if_neg (by rw [decide_eq_false c]; decide), if_neg c]
        simp
    rw [e2]
    split
    · rename_i c
      subst c
      rw [ends_at h]
    · rename_i c
      unfold endsL
      rw [List.getElem?_map, List.getElem?_range hj, Int.add_zero]
      rfl
  · have e3 : (endsL n (E ++ [p]))[j]? = none := List.getElem?_eq_none (by rw [ends_len]; omega)
    have e4 : (endsL n E)[j]? = none := List.getElem?_eq_none (by rw [ends_len]; omega)
    rw [if_neg (by omega), e3, e4]
abbrev c_arrivals (A : Ad) : Cn := fun K w ds Ψ Ξ => ∃ n ts ws, ds = [webD A n ts, .tup (ws.map D.int)] ∧ DirOk n ts ws ∧ Ψ (.fz (.tup ((endsL n.toNat (arrN ts ws)).map D.int)))
theorem l_arrivals (A : Ad) : ∀ K w ds Ψ Ξ, (c_arrivals A) K w ds Ψ Ξ → ds.length = 2 := fun K w ds Ψ Ξ h => by
  obtain ⟨_, _, _, rfl, _⟩ := h
  rfl
theorem ok_arrivals {P : Program} {w : World} {K : PySem.W.Frag} {mg : Str → Option Value} {base : Heap} {A : Ad} (T : Txt K mg A) : FnOk P w K mg base CX0 4 A.arrivals A.fd_arrivals ["web", "direction"] (SpD K AnyR (c_arrivals A)) := by
  refine Fun.ok T.F_arrivals sc_arrivals (fun vs H Q E h => spd_len (l_arrivals A) h) (fun cdv A' outer s H vs Q E hr h => ⟨_, (pss_cons (ps_expr (pe_call (ok_check_direction T) (hr.mono (by decide)) (by rfl) T.m_check_direction T.F_check_direction.kp (b_check_direction T) .nil passLN (pa_cons (pv 0) (pa_cons (pv 1) pa_nil))))
        (pss_cons (ps_set (i := 2) sc_arrivals.nd rfl (.inl rfl) (pe_op op_rep (pe_lst (pa_cons pe_int pa_nil)) (pe_fld (pv 0) rfl)))
        (pss_cons (ps_for PassesOwn.never rfl (pi_list (pe_call (ok_arrows_of T) (hr.mono (by decide)) (by rfl) T.m_arrows_of T.F_arrows_of.kp (b_arrows_of T) .nil pass0 (pa_cons (pe_fld (pv 0) rfl) (pa_cons (pv 1) pa_nil)))) (pg_tup (by rfl) (pgs_cons (pg_name (i := 3) sc_arrivals.nd rfl (.inl rfl)) (pgs_cons (pg_name (i := 4) sc_arrivals.nd rfl (.inl rfl)) pgs_nil))) (pss_one (ps_augS (pv 2) (pv 4) get_own pe_int ip_add set_list)))
        (pss_one (ps_ret (pe_callTy call_tuple_of (by rfl) T.b_tuple (by decide +kernel) (pa_cons (pv 2) pa_nil))))))), ?_⟩)
  refine body_ok 2 (by decide) (l_arrivals A) h (fun Γ ds Ψ Ξ hK hX hF hc ke => ?_)
  subst hK
  obtain ⟨n, ts, ws, rfl, hd, hc⟩ := hc
  have n0 := hd.n0
  have n1 := hd.n1
  have hl := hd.hl
  have hb := hd.hb
  refine sw_seq (sw_drop ?_)
  walk_at "ru"
  refine ⟨dt1_ints (by omega), dirok_is hd, ?_⟩
  refine sw_seq (sw_asgB (eb_rep (aw_cons (ew_int (aw_nil ⟨by show 1 ≤ 1000; omega, fun c => ew_fld rfl (ew_var rfl ⟨_, _, _, rfl, T.cl_Web, T.no_Web_size, rfl, n, rfl, ⟨by omega, by omega⟩, by show 1 * n.toNat ≤ 100000; omega, ?_⟩)⟩)))))
  have e0 : (List.replicate n.toNat [D.int 0]).flatten = (endsL n.toNat []).map D.int := by
    rw [flat_rep1]
    unfold endsL
    rw [List.map_map]
    apply List.ext_getElem?
    intro j
    rw [List.getElem?_map]
    by_cases hj : j < n.toNat
    · rw [List.getElem?_replicate, if_pos hj, List.getElem?_range hj]
      rfl
    · rw [List.getElem?_replicate, if_neg hj, List.getElem?_eq_none (by rw [List.length_range]; omega)]
      rfl
  rw [e0]
  refine sw_seq (sw_forL rfl (ew_callP rfl trivial (aw_cons (ew_fld rfl (ew_var rfl ⟨_, _, _, rfl, T.cl_Web, T.no_Web_ties, rfl, aw_cons (ew_var rfl (aw_nil ⟨ts, ws, rfl, hl, hb, ?_⟩))⟩)))))
  rw [arr_prD hd.ht]
  refine ⟨_, rfl, fun i ρ => ∃ c3 c4, ρ = [some (.fz (webD A n ts)), some (.fz (.tup (ws.map D.int))), some (.ow (.lst ((endsL n.toNat ((arrN ts ws).take i)).map D.int))), c3, c4], ⟨_, _, rfl⟩, ?_, ?_⟩
  · rintro i x ρ2 hx ⟨c3, c4, rfl⟩
    obtain ⟨p, hp, rfl⟩ := item_map hx
    obtain ⟨p1, p2⟩ := arr_ok hd.ht p (List.mem_of_getElem? hp)
    refine ⟨_, gd_pair rfl rfl gd_name gd_name, ?_⟩
    refine sw_augI rfl rfl (ew_var rfl ⟨(p.2 : Int), rfl, rfl, by omega, by rw [ends_len]; omega, ew_int ⟨1, rfl, rfl, ?_⟩⟩)
    refine ⟨some (.fz (.int p.1)), some (.fz (.int p.2)), ?_⟩
    rw [Int.toNat_natCast, ends_more p2, ← get_take hp]
    rfl
  · rintro ρ2 ⟨c3, c4, rfl⟩
    have e : (arrN ts ws).take ((arrN ts ws).map prD).length = arrN ts ws := by rw [List.length_map, List.take_length]
    rw [e]
    exact sw_ret (ew_tupO rfl rfl hc)
end Pf

namespace Pf
open PySem L2 Dl Sh
open Evl (Ex)
local macro_rules | `(tactic| walk_at "r0") => `(tactic| with_reducible first
  | refine sw_seq ?_
  | refine ew_var rfl ?_
  | refine ew_int ?_
  | refine ew_bl ?_
  | refine ew_non ?_
  | refine ew_str ?_
  | refine aw_cons ?_
  | refine aw_nil ?_
  | refine sw_par ?_
  | refine sw_next ?_
  | refine sw_if ?_
  | refine sw_ret ?_
  | refine tw_not ?_
  | refine tw_and ?_
  | refine tw_or ?_
  | refine tw_test ?_
  | refine tw_B ?_
  | refine tw_tru rfl ?_
  | refine ew_andV ?_
  | refine ew_orV ?_
  | refine ew_notV ?_
  | refine ew_if ?_
  | refine ew_chain ?_
  | refine ew_isN ?_
  | refine ew_tup ?_
  | refine ew_lst ?_
  | refine ew_isiD isN_int rfl ?_
  | refine ew_isiD isN_bool rfl ?_
  | refine ew_isiD isN_tuple rfl ?_
  | refine ew_isiD isN_list rfl ?_
  | refine ew_isiD isN_str rfl ?_
  | refine ew_isi2D isN_list isN_tuple rfl ?_
  | refine ew_isi2D isN_tuple isN_list rfl ?_
  | refine ew_cb ?_
  | refine ew_neg ?_
  | refine ew_op ?_
  | refine ⟨_, opv_int, ?_⟩
  | refine ⟨_, opv_cmp, ?_⟩
  | refine ⟨_, opv_eq, ?_⟩
  | refine ⟨_, opv_ne, ?_⟩
  | refine ⟨_, opv_eqB, ?_⟩
  | refine ⟨_, opv_eqS, ?_⟩
  | refine ⟨_, cbv_abs, ?_⟩
  | refine ⟨_, cbv_max2, ?_⟩
  | refine ⟨_, cbv_min2, ?_⟩
  | refine pw_none ?_
  | refine pw_some ?_
  | refine ⟨_, cbv_int, ?_⟩
  | refine ⟨_, rfl, ?_⟩
  | refine ⟨_, _, rfl, ?_⟩
  | refine ⟨_, _, _, rfl, ?_⟩
  | refine ⟨_, _, _, _, rfl, ?_⟩
  | refine br_t ?_
  | refine br_f ?_
  | refine ⟨dt_int, ?_⟩
  | refine ⟨dt_bl, ?_⟩
  | refine ⟨dt_str, ?_⟩
  | refine ⟨dt_non, ?_⟩
  | refine ⟨dt_tup, ?_⟩
  | refine ⟨dt_lst, ?_⟩
  | refine sw_asg ?_
  | refine sw_drop ?_)
local macro_rules | `(tactic| walk_at "r1") => `(tactic| first
  | ((with_reducible refine ew_tupL ?hK ?_); (case hK => rfl))
  | ((with_reducible refine ew_catT ?hK ?_); (case hK => rfl))
  | ((with_reducible refine ew_repT ?hK ?_); (case hK => rfl))
  | ((with_reducible refine ew_of_eb (eb_listL ?hK ?_)); (case hK => rfl))
  | ((with_reducible refine ew_of_eb (eb_cutL ?hK ?_)); (case hK => rfl))
  | walk_at "r0"
  | ((with_reducible refine ew_of_eb (eb_mapT ?hV ?hK ?_)); (case hK => rfl); (case hV => rfl))
  | ((with_reducible refine ew_of_eb (eb_mapL ?hV ?hK ?_)); (case hK => rfl); (case hV => rfl))
  | ((with_reducible refine ew_of_eb (eb_mapR ?hV ?_)); (case hV => rfl))
  | ((with_reducible refine ew_callP ?hK trivial ?_); (case hK => rfl))
  | ((with_reducible refine ew_callW ?hK trivial ?_); (case hK => rfl))
  | ((with_reducible refine ew_callH ?hK trivial ?_); (case hK => rfl))
  | ((with_reducible refine ew_callR ?hK ?hF ?_); (case hK => rfl); (case hF => assumption))
  | ((with_reducible refine len_ok ?hK ?_); (case hK => rfl))
  | ((with_reducible refine ew_notT ?hK ?_); (case hK => rfl))
  | ((with_reducible refine ew_cutT ?hK ?_); (case hK => rfl))
  | ((with_reducible refine ⟨(?hK : Dt _ _), ?_⟩); (case hK => assumption))
  | ((with_reducible refine sw_unp2 ?hK ?hn ?_); (case hK => rfl); (case hn => rfl)))
local macro_rules | `(tactic| walk_at "side") => `(tactic| first
  | exact Or.inr (by decide)
  | exact Or.inl (by decide)
  | exact ⟨by decide, by decide⟩
  | exact ⟨by decide, by decide, by decide⟩
  | decide
  | (dsimp only; decide)
  | exact mw (by assumption) (by assumption))
local macro_rules | `(tactic| walk_at "r2") => `(tactic| first
  | walk_at "r1"
  | ((with_reducible refine ⟨_, opv_intC ?hC, ?_⟩); (case hC => walk_at "side"))
  | ((with_reducible refine ⟨_, cbv_lenL ?hK, ?_⟩); (case hK => rfl))
  | ((with_reducible refine ⟨_, cbv_allM ?hK, ?_⟩); (case hK => rfl))
  | ((with_reducible refine ⟨_, cbv_anyM ?hK, ?_⟩); (case hK => rfl))
  | ((with_reducible refine ⟨_, cbv_sumM ?hK, ?_⟩); (case hK => rfl))
  | ((with_reducible refine ⟨_, cbv_lenT ?hK, ?_⟩); (case hK => rfl))
  | (with_reducible refine ⟨_, opv_ixT (by with_unfolding_all rfl) (by with_unfolding_all rfl), ?_⟩)
  | refine br_t ?_
  | refine br_f ?_)
local macro_rules | `(tactic| walk_at "rd") => `(tactic| repeat (walk_at "r2"))
local macro_rules | `(tactic| walk_at "rs") => `(tactic| repeat ((fail_if_success (with_reducible refine sw_isif ?_)); walk_at "r2"))
local macro_rules | `(tactic| walk_at "nf") => `(tactic| (try simp only [List.set_cons_zero, List.set_cons_succ, Dl.sets, Dl.asD]))
local macro_rules | `(tactic| walk_at "ru") => `(tactic| repeat ((fail_if_success (with_reducible refine sw_seq ?_)); walk_at "r2"))

abbrev c__law_draw : Cn := fun K w ds Ψ Ξ => ∃ many : Int, ds = [.ptr w, .int many] ∧ 1 ≤ many ∧ many < 1073741824 ∧ ∀ d : Int, 0 ≤ d → d < many → Ψ (.fz (.int d))
theorem l__law_draw : ∀ K w ds Ψ Ξ, c__law_draw K w ds Ψ Ξ → ds.length = 2 := fun K w ds Ψ Ξ h => by
  obtain ⟨_, rfl, _⟩ := h
  rfl
theorem if_of {c A B : Prop} [Decidable c] {b : Bool} (e : decide c = b) (h1 : c → A) (h2 : ¬ c → B) : if b = true then A else B := by
  by_cases h : c
  · rw [← e, decide_eq_true h, if_pos rfl]
    exact h1 h
  · rw [← e, decide_eq_false h, if_neg Bool.false_ne_true]
    exact h2 h
theorem seqN {k n : Nat} (h : k < n) : seqIndex? (k : Int) n = some k := by
  unfold seqIndex?
  have e : ¬ ((k : Int) < 0) := by omega
  simp only [if_neg e]
  rw [decide_eq_true (show (0 : Int) ≤ (k : Int) by omega), decide_eq_true (show (k : Int) < (n : Int) by omega)]
  rfl
theorem seq0 {n : Nat} (h : 0 < n) : seqIndex? 0 n = some 0 := seqN (k := 0) h
theorem box_aft {b g s : Addr} {G H H' : Hp} (hgn : ∀ a, (boxR b g s).F a → G a = none) (hG : Ex G H) (hI : (boxR b g s).I H') (he : ∀ x, x ≠ b → x ≠ g → x ≠ s → H' x = H x) : Aft (boxR b g s) G H G H' where
  gg := Ex.refl G
  gh := fun x o h => by
    have n : ¬ (boxR b g s).F x := fun e => by rw [hgn x e] at h; cases h
    rw [he x (fun e => n (.inl e)) (fun e => n (.inr (.inl e))) (fun e => n (.inr (.inr e)))]
    exact hG x o h
  res := hI
  rg := hgn
  nw := fun x h _ => h
  fr := fun x o n h => by
    rw [he x (fun e => n (.inl e)) (fun e => n (.inr (.inl e))) (fun e => n (.inr (.inr e)))]
    exact h
  dm := fun x h => by
    by_cases c : (boxR b g s).F x
    · exact (boxR b g s).dom H' x hI c
    · rw [he x (fun e => c (.inl e)) (fun e => c (.inr (.inl e))) (fun e => c (.inr (.inr e)))]
      exact h
theorem ok__law_draw {P : Program} {w : World} {K : PySem.W.Frag} {mg : Str → Option Value} {base : Heap} {A : Ad} (T : Txt K mg A) : FnOk P w K mg base CX0 1 A._law_draw A.fd__law_draw ["box", "many"] (SpD K IsBox c__law_draw) := by
  refine T.F__law_draw.ok sc__law_draw (fun vs H Q E h => spd_len l__law_draw h) (fun cdv A' outer s H vs Q E hr h => ⟨_,
(pss_cons (ps_asg (pv 0) (pg_lst rfl (pgs_cons (pg_name (i := 2) sc__law_draw.nd rfl (.inl rfl)) (pgs_cons (pg_name (i := 3) sc__law_draw.nd rfl (.inl rfl)) (pgs_cons (pg_name (i := 4) sc__law_draw.nd rfl (.inl rfl)) pgs_nil)))))
        (pss_cons (ps_asg (pe_op op_add (pv 4) pe_int) (pg_sub (pv 0) pe_int set_list))
        (pss_cons (ps_if (pt_cmpR op_gt (pe_callB call_len_seq (by rfl) T.b_len (by decide +kernel) (pa_cons (pv 2) pa_nil)) pe_int (nomark _)) (pss_cons (ps_set (i := 5) sc__law_draw.nd rfl (.inl rfl) (pe_op op_mod (pe_callTy call_int1 (by rfl) T.b_int (by decide +kernel) (pa_cons (pe_ix ix_list (pv 2) pe_int (fun _ _ => rfl)) pa_nil)) (pv 1)))
        (pss_cons (ps_asg (pe_op op_fdiv (pe_ix ix_list (pv 2) pe_int (fun _ _ => rfl)) (pv 1)) (pg_sub (pv 2) pe_int set_list))
        (pss_cons (ps_if (pt_cmpR op_eq (pe_ix ix_list (pv 2) pe_int (fun _ _ => rfl)) pe_int (nomark _)) (pss_one (ps_expr (pe_bm PySem.F.plainAttrs_list PySem.F.slot_list_pop PySem.F.type_list_pop mt_popAt (pv 2) (pa_cons pe_int pa_nil)))) pss_nil)
        (pss_one (ps_ret (pv 5)))))) pss_nil)
        (pss_cons (ps_set (i := 6) sc__law_draw.nd rfl (.inl rfl) (pe_ix ix_list (pv 3) (pe_op op_mod (pe_callTy call_int1 (by rfl) T.b_int (by decide +kernel) (pa_cons (pv 4) pa_nil)) (pe_callB call_len_seq (by rfl) T.b_len (by decide +kernel) (pa_cons (pv 3) pa_nil))) (fun _ _ => rfl)))
        (pss_cons (ps_set (i := 7) sc__law_draw.nd rfl (.inl rfl) (pe_op op_mod (pe_callTy call_int1 (by rfl) T.b_int (by decide +kernel) (pa_cons (pe_op op_add (pe_op op_add (pe_op op_mul (pv 6) pe_int) (pe_op op_mul (pv 4) pe_int)) pe_int) pa_nil)) pe_int))
        (pss_cons (ps_set (i := 7) sc__law_draw.nd rfl (.inl rfl) (pe_op op_mod (pe_callTy call_int1 (by rfl) T.b_int (by decide +kernel) (pa_cons (pe_op op_add (pe_op op_add (pe_op op_mul (pv 7) (pv 7)) (pe_op op_mul (pv 4) pe_int)) (pv 6)) pa_nil)) pe_int))
        (pss_cons (ps_set (i := 7) sc__law_draw.nd rfl (.inl rfl) (pe_op op_mod (pe_callTy call_int1 (by rfl) T.b_int (by decide +kernel) (pa_cons (pe_op op_add (pe_op op_mul (pv 7) (pe_op op_add (pe_op op_fdiv (pv 7) pe_int) pe_int)) (pv 4)) pa_nil)) pe_int))
        (pss_one (ps_ret (pe_op op_mod (pe_callTy call_int1 (by rfl) T.b_int (by decide +kernel) (pa_cons (pe_op op_fdiv (pv 7) pe_int) pa_nil)) (pv 1)))))))))))
    , ?_⟩)
  obtain ⟨R, G, ds, Ψ, Ξ, ⟨b, g, z, d1, d2, d3, rfl⟩, hI, hgn, hG, rl, ⟨many, rfl, m1, m2, hc⟩, kq, ke⟩ := h
  obtain ⟨gs, small, turn, hb, hg, hz, p1, p2, p3, p4, p5, p6⟩ := id hI
  cases rl with
  | cons r1 rl => cases rl with
    | cons r2 rl =>
      cases rl
      cases r1
      cases r2
      have aft : ∀ {H' : Hp}, (boxR b g z).I H' → (∀ x, x ≠ b → x ≠ g → x ≠ z → H' x = H x) → Aft (boxR b g z) G H G H' := fun h1 h2 => box_aft hgn hG h1 h2
      refine ⟨_, rfl, b, _, rfl, SqL.of hb, rfl, ?_⟩
      refine ⟨_, _, rfl, _, _, rfl, _, _, rfl, rfl, ?_⟩
      refine ⟨_, rfl, _, _, rfl, rfl, _, rfl, b, _, _, _, rfl, rfl, hb, rfl, ?_⟩
      have e1 : upd H b (HO.lst ([V.ref g, V.ref z, V.int turn].set (Int.toNat 2) (.int (turn + 1)))) = upd H b (.lst [.ref g, .ref z, .int (turn + 1)]) := rfl
      rw [e1]
      obtain ⟨H1, hH1⟩ : ∃ H1, H1 = upd H b (.lst [.ref g, .ref z, .int (turn + 1)]) := ⟨_, rfl⟩
      have hb1 : H1 b = some (.lst [.ref g, .ref z, .int (turn + 1)]) := by rw [hH1, upd_same]
      have hg1 : H1 g = some (.lst (gs.map V.int)) := by rw [hH1, upd_ne (Ne.symm d1)]; exact hg
      have hz1 : H1 z = some (.lst (small.map V.int)) := by rw [hH1, upd_ne (Ne.symm d2)]; exact hz
      have ho1 : ∀ x, x ≠ b → x ≠ g → x ≠ z → H1 x = H x := fun x n _ _ => by rw [hH1, upd_ne n]
      rw [← hH1]
      refine ⟨_, rfl, g, _, rfl, .inl (SqL.of hg1), _, _, rfl, rfl, _, rfl, ?_⟩
      refine if_of (c := 0 < ((gs.map V.int).length : Int)) rfl (fun hp => ?_) fun hp => ?_
      · obtain ⟨x0, r, rfl⟩ : ∃ x0 r, gs = x0 :: r := by
          cases gs with
          | nil => exact absurd hp (by decide)
          | cons x0 r => exact ⟨x0, r, rfl⟩
        have x00 : 0 ≤ x0 := p1 x0 List.mem_cons_self
        have at0 : ∀ {y : Int}, atI ((y :: r).map V.int) 0 = some (V.int y) := fun {y} => atI_nat (j := 0) rfl
        refine ⟨_, rfl, g, _, _, _, rfl, rfl, SqL.of hg1, at0, .inl ⟨_, rfl, _, rfl, _, _, rfl, rfl, by omega, ?_⟩⟩
        refine ⟨_, rfl, g, _, _, _, rfl, rfl, SqL.of hg1, at0, _, rfl, _, _, rfl, rfl, ⟨by omega, m2⟩, _, rfl, g, _, _, _, rfl, rfl, hg1, ixN_of (by decide) (by rw [List.length_map, List.length_cons]; omega), ?_⟩
        have e2 : upd H1 g (HO.lst (((x0 :: r).map V.int).set (Int.toNat 0) ((fun i j => V.int (i / j)) x0 many))) = upd H1 g (.lst ((x0 / many :: r).map V.int)) := rfl
        rw [e2]
        obtain ⟨H2, hH2⟩ : ∃ H2, H2 = upd H1 g (.lst ((x0 / many :: r).map V.int)) := ⟨_, rfl⟩
        have hb2 : H2 b = some (.lst [.ref g, .ref z, .int (turn + 1)]) := by rw [hH2, upd_ne d1]; exact hb1
        have hg2 : H2 g = some (.lst ((x0 / many :: r).map V.int)) := by rw [hH2, upd_same]
        have hz2 : H2 z = some (.lst (small.map V.int)) := by rw [hH2, upd_ne (Ne.symm d3)]; exact hz1
        have ho2 : ∀ x, x ≠ b → x ≠ g → x ≠ z → H2 x = H x := fun x n1 n2 n3 => by rw [hH2, upd_ne n2]; exact ho1 x n1 n2 n3
        have q0 : 0 ≤ x0 / many := Int.ediv_nonneg x00 (by omega)
        rw [← hH2]
        have kd : 0 ≤ x0 % many ∧ x0 % many < many := ⟨Int.emod_nonneg _ (by omega), Int.emod_lt_of_pos _ (by omega)⟩
        refine ⟨_, rfl, g, _, _, _, rfl, rfl, SqL.of hg2, at0, rfl, _, rfl, ?_⟩
        refine if_of (c := V.int (x0 / many) = V.int 0) rfl (fun h0 => ?_) fun h0 => ?_
        · refine ⟨_, rfl, .inl ⟨rfl, _, SqL.of hg2⟩, g, _, 0, 0, _, rfl, rfl, hg2, by decide, by decide, ?_, rfl, ?_⟩
          · exact seq0 (by rw [List.length_map, List.length_cons]; exact Nat.succ_pos _)
          · refine ⟨_, rfl, kq (.fz (.int (x0 % many))) _ G _ (aft ⟨r, small, turn + 1, ?_, ?_, ?_, fun x hx => p1 x (List.mem_cons_of_mem _ hx), p2, ?_, p4, p5, by omega⟩ ?_) (Rep.int _) (hc _ kd.1 kd.2)⟩
            · rw [upd_ne d1]
              exact hb2
            · rw [upd_same]
              rfl
            · rw [upd_ne (Ne.symm d3)]
              exact hz2
            · rw [List.length_cons] at p3
              omega
            · intro x n1 n2 n3
              rw [upd_ne n2]
              exact ho2 x n1 n2 n3
        · exact ⟨_, rfl, kq (.fz (.int (x0 % many))) _ G _ (aft ⟨x0 / many :: r, small, turn + 1, hb2, hg2, hz2, fun x hx => by
            rcases List.mem_cons.mp hx with rfl | hx
            · exact q0
            · exact p1 x (List.mem_cons_of_mem _ hx), p2, by rw [List.length_cons] at p3 ⊢; omega, p4, p5, by omega⟩ ho2) (Rep.int _) (hc _ kd.1 kd.2)⟩
      · have sl : (0 : Int) < small.length := by omega
        have k0 := Int.emod_nonneg turn (show (small.length : Int) ≠ 0 by omega)
        have k1 := Int.emod_lt_of_pos turn sl
        obtain ⟨c, hcs, hcm⟩ : ∃ c, atI (small.map V.int) (turn % (small.length : Int)) = some (V.int c) ∧ c ∈ small := by
          obtain ⟨n, hn⟩ := Int.eq_ofNat_of_zero_le k0
          rw [hn]
          have hlt : n < small.length := by omega
          exact ⟨small[n], atI_nat (by rw [List.getElem?_map, List.getElem?_eq_getElem hlt]; rfl), List.getElem_mem hlt⟩
        obtain ⟨c0, c1⟩ := p2 c hcm
        refine ⟨_, rfl, _, rfl, .inl ⟨_, rfl, _, rfl, z, _, rfl, .inl (SqL.of hz1), _, _, rfl, rfl, by rw [List.length_map]; exact sl, z, _, _, _, rfl, rfl, SqL.of hz1, by rw [List.length_map]; exact hcs, ?_⟩⟩
        refine ⟨_, rfl, _, _, rfl, rfl, .inr (by decide), _, rfl, _, _, rfl, rfl, .inr (by decide), _, _, rfl, rfl, _, _, rfl, rfl, .inl ⟨_, rfl, _, _, rfl, rfl, (by show (0 : Int) < 2147483647; decide), ?_⟩⟩
        have a0 := Int.emod_nonneg (c * 48271 + turn * 69621 + 101) (show (2147483647 : Int) ≠ 0 by decide)
        have a1 := Int.emod_lt_of_pos (c * 48271 + turn * 69621 + 101) (show (0 : Int) < 2147483647 by decide)
        obtain ⟨m, hm⟩ : ∃ m, m = (c * 48271 + turn * 69621 + 101) % 2147483647 := ⟨_, rfl⟩
        rw [← hm] at a0 a1
        have em : (fun i j => V.int (i % j)) (c * 48271 + turn * 69621 + 101) 2147483647 = V.int m := by rw [hm]
        refine ⟨_, rfl, _, rfl, _, _, rfl, rfl, .inl ?_, ?_⟩
        · show -(2 ^ 64) < (c * 48271 + turn * 69621 + 101) % 2147483647 ∧ _
          rw [← hm]
          constructor <;> omega
        refine ⟨_, rfl, _, _, rfl, rfl, .inr (by decide), _, _, rfl, rfl, _, rfl, _, _, rfl, rfl, .inl ⟨_, rfl, _, _, rfl, rfl, (by show (0 : Int) < 2147483587; decide), ?_⟩⟩
        rw [← hm]
        have b0 := Int.emod_nonneg (m * m + turn * 7919 + c) (show (2147483587 : Int) ≠ 0 by decide)
        have b1 := Int.emod_lt_of_pos (m * m + turn * 7919 + c) (show (0 : Int) < 2147483587 by decide)
        obtain ⟨m', hm'⟩ : ∃ m', m' = (m * m + turn * 7919 + c) % 2147483587 := ⟨_, rfl⟩
        rw [← hm'] at b0 b1
        refine ⟨_, rfl, _, rfl, _, _, rfl, rfl, ⟨by decide, by decide⟩, _, _, rfl, rfl, _, _, rfl, rfl, .inl ?_, ?_⟩
        · show -(2 ^ 64) < (m * m + turn * 7919 + c) % 2147483587 ∧ _
          rw [← hm']
          constructor <;> omega
        refine ⟨_, rfl, _, _, rfl, rfl, .inl ⟨_, rfl, _, _, rfl, rfl, (by show (0 : Int) < 2147483579; decide), ?_⟩⟩
        refine ⟨_, rfl, _, _, rfl, rfl, ⟨by decide, by decide⟩, .inl ⟨_, rfl, _, rfl, _, _, rfl, rfl, by omega, ?_⟩⟩
        exact kq (.fz (.int _)) _ G _ (aft ⟨gs, small, turn + 1, hb1, hg1, hz1, p1, p2, p3, p4, p5, by omega⟩ ho1) (Rep.int _) (hc _ (Int.emod_nonneg _ (by omega)) (Int.emod_lt_of_pos _ (by omega)))
theorem ok__law_box {P : Program} {w : World} {K : PySem.W.Frag} {mg : Str → Option Value} {base : Heap} {A : Ad} (T : Txt K mg A) : FnOk P w K mg base CX0 1 A._law_box A.fd__law_box ["script"] (spBox K) := by
  refine T.F__law_box.ok sc__law_box (fun vs H Q E h => by obtain ⟨a, ns, rfl, _⟩ := h; rfl) (fun cdv A' outer s H vs Q E hr h => ⟨_,
(pss_cons (ps_setLc (i := 1) (own := [("cell", 2)]) (by rfl) sc__law_box.nd rfl rfl (sw_true rfl rfl rfl (by decide +kernel)) (pi_list (pv 0)) (blkOk_by (own := [("cell", 2)]) (N := ["script", "great", "cell", "small"]) (sc := defScope s__law_box) (by decide +kernel)) (fun _ _ _ _ _ => (pg_name (i := 2) sc__law_box.nd rfl (.inl rfl))) (fun _ _ _ _ _ => (pts_one (pt_cmpR op_ge (pe_callB call_abs (by rfl) T.b_abs (by decide +kernel) (pa_cons (pe_callTy call_int1 (by rfl) T.b_int (by decide +kernel) (pa_cons (pv 2) pa_nil)) pa_nil)) (pe_op op_pow pe_int pe_int) (nomark _)))) (fun _ _ _ _ _ => (pe_callB call_abs (by rfl) T.b_abs (by decide +kernel) (pa_cons (pe_callTy call_int1 (by rfl) T.b_int (by decide +kernel) (pa_cons (pv 2) pa_nil)) pa_nil))))
        (pss_cons (ps_set (i := 3) sc__law_box.nd rfl (.inl rfl) (pe_op op_cat (pe_lc (own := [("cell", 2)]) (by rfl) sc__law_box.nd (pi_list (pv 0)) (blkOk_by (own := [("cell", 2)]) (N := ["script", "great", "cell", "small"]) (sc := defScope s__law_box) (by decide +kernel)) (fun _ _ _ _ _ => (pg_name (i := 2) sc__law_box.nd rfl (.inl rfl))) (fun _ _ _ _ _ => pts_nil) (fun _ _ _ _ _ => (pe_op op_mod (pe_callTy call_int1 (by rfl) T.b_int (by decide +kernel) (pa_cons (pv 2) pa_nil)) pe_int))) (pe_lst (pa_cons (pe_callB call_len_seq (by rfl) T.b_len (by decide +kernel) (pa_cons (pv 0) pa_nil)) pa_nil))))
        (pss_one (ps_ret (pe_lst (pa_cons (pv 1) (pa_cons (pv 3) (pa_cons pe_int pa_nil))))))))
    , ?_⟩)
  obtain ⟨a, ns, rfl, hS, hl, hq⟩ := h
  have k0 : Ok (⟨K, H, H, Rsc.no, []⟩ : Dl.Ctx) H H (L2.start ["script", "great", "cell", "small"] [.ref a]) [some (.fz (.lst (ns.map D.int))), none, none, none] := by
    refine ⟨Ex.refl H, Ex.refl H, fun x h _ => h, fun x o _ h => h, fun x h => h, trivial, fun x e => e.elim, rfl, fun i b h => ?_, fun i j x ⟨_, es, q⟩ _ => ?_, fun p hp => absurd hp (by simp), fun i x _ p hp => absurd hp (by simp)⟩
    · match i, h with
      | 0, h =>
        cases h
        exact ⟨_, rfl, Rep.lst hS (RepL.ofInts ns)⟩
      | 1, h => cases h
      | 2, h => cases h
      | 3, h => cases h
    · match i, q with
      | 0, q => cases q
      | 1, q => cases q
      | 2, q => cases q
      | 3, q => cases q
  refine sw_run (M := fun ρ => ∃ gs : List Int, (∀ x ∈ gs, 0 ≤ x) ∧ gs.length ≤ 64 ∧ ρ = [some (.fz (.lst (ns.map D.int))), some (.ow (.lst (gs.map D.int))), none, none]) (sw_asgB (eb_lcL rfl (ew_var rfl ⟨_, rfl, gw_name (by decide), fun j hj es => ?_, by rw [List.length_map]; omega, fun i acc => ∃ gs : List Int, acc = gs.map D.int ∧ (∀ x ∈ gs, 0 ≤ x) ∧ gs.length ≤ i, ⟨[], rfl, fun x h => absurd h (by simp), Nat.le_refl _⟩, ?_, ?_⟩))) k0 ?_
  · rw [List.mem_singleton.mp hj]
    intro z
    cases z
  · rintro i x acc c hi ⟨gs, rfl, h1, h2⟩
    obtain ⟨y, hy, rfl⟩ := item_map hi
    refine ⟨_, gd_name, rfl, ?_⟩
    walk_at "rd"
    refine ⟨rfl, fun h3 => ?_, fun h3 => ⟨gs, rfl, h1, by omega⟩⟩
    walk_at "rd"
    refine ⟨rfl, gs ++ [if y < 0 then -y else y], by rw [List.map_append]; rfl, fun x hx => ?_, by rw [List.length_append]; show gs.length + 1 ≤ _; omega⟩
    rcases List.mem_append.mp hx with hx | hx
    · exact h1 x hx
    · rw [List.mem_singleton.mp hx]
      split <;> omega
  · rintro acc ⟨gs, rfl, h1, h2⟩
    rw [List.length_map] at h2
    exact ⟨gs, h1, by omega, rfl⟩
  · rintro ρ1 σ1 G1 H1 e1 k1 ⟨gs, g1, g2, rfl⟩
    refine sw_run (M := fun ρ => ∃ small : List Int, (∀ x ∈ small, 0 ≤ x ∧ x < 2147483629) ∧ 0 < small.length ∧ small.length ≤ 64 ∧ ρ = [some (.fz (.lst (ns.map D.int))), some (.ow (.lst (gs.map D.int))), none, some (.ow (.lst (small.map D.int)))]) (sw_asgB (eb_catE (eb_mapL rfl rfl (ew_var rfl ⟨_, rfl, (fun es z => by cases z), by rw [List.length_map]; omega, fun x => (match x with | .int y => .int (y % 2147483629) | _ => .non), fun x hx c => ?_, _, rfl, fun c => ?_⟩)))) k1 ?_
    · obtain ⟨y, hy, rfl⟩ := List.mem_map.mp hx
      walk_at "rd"
      exact ⟨rfl, rfl⟩
    · refine eb_lst (aw_cons (ew_cb (aw_cons (ew_var rfl (aw_nil ⟨_, cbv_lenL rfl, aw_nil ⟨by show 1 ≤ 100000; omega, _, rfl, ?_, ?_⟩⟩)))))
      · rw [List.length_map, List.length_map]
        show ns.length + 1 ≤ 100000
        omega
      · refine ⟨(ns.map fun y => y % 2147483629) ++ [(ns.length : Int)], fun x hx => ?_, by simp, by rw [List.length_append, List.length_map]; show ns.length + 1 ≤ 64; omega, ?_⟩
        · rcases List.mem_append.mp hx with hx | hx
          · obtain ⟨y, _, rfl⟩ := List.mem_map.mp hx
            exact ⟨Int.emod_nonneg _ (by decide), Int.emod_lt_of_pos _ (by decide)⟩
          · rw [List.mem_singleton.mp hx]
            omega
        · rw [List.map_append, List.map_map, List.map_map, List.length_map]
          rfl
    · rintro ρ2 σ2 G2 H2 e2 k2 ⟨small, s1, s2, s3, rfl⟩
      obtain ⟨g, xs, q1, q2, q3⟩ := k2.lst (l := 1) rfl
      obtain ⟨z, ys, p1, p2, p3⟩ := k2.lst (l := 3) rfl
      have og : own σ2 [some (.fz (.lst (ns.map D.int))), some (.ow (.lst (gs.map D.int))), none, some (.ow (.lst (small.map D.int)))] 1 g := ⟨q1, _, rfl⟩
      have oz : own σ2 [some (.fz (.lst (ns.map D.int))), some (.ow (.lst (gs.map D.int))), none, some (.ow (.lst (small.map D.int)))] 3 z := ⟨p1, _, rfl⟩
      obtain ⟨_, _, _, _, hg⟩ := own_in k2 og
      obtain ⟨_, _, _, _, hz⟩ := own_in k2 oz
      have gz : g ≠ z := fun e => by
        subst e
        have := k2.dj 1 3 g og oz
        cases this
      have ex := q3.ints
      have ey := p3.ints
      subst ex ey
      refine ⟨_, q1, _, p1, ?_⟩
      refine ⟨by show 3 ≤ sizeLine; decide, fun p hp => ?_⟩
      have hpn : H p = none := by
        cases e : H p with
        | none => rfl
        | some o =>
          have := k2.fr p o (fun z => z) e
          rw [hp] at this
          cases this
      have pg : p ≠ g := fun e => by
        rw [e, q2] at hp
        cases hp
      have pz : p ≠ z := fun e => by
        rw [e, p2] at hp
        cases hp
      refine hq p g z _ pg pz gz hpn hg hz (fun x o e => ?_) ⟨gs, small, 0, by rw [upd_same], by rw [upd_ne (Ne.symm pg)]; exact q2, by rw [upd_ne (Ne.symm pz)]; exact p2, g1, s1, g2, s2, s3, by omega⟩
      rw [upd_ne fun e2 => by rw [e2, hpn] at e; cases e]
      exact k2.fr x o (fun z => z) e
end Pf

namespace Pf
open PySem L2 Dl Sh
open Evl (Ex)
local macro_rules | `(tactic| walk_at "r0") => `(tactic| with_reducible first
  | refine sw_seq ?_
  | refine ew_var rfl ?_
  | refine ew_int ?_
  | refine ew_bl ?_
  | refine ew_non ?_
  | refine ew_str ?_
  | refine aw_cons ?_
  | refine aw_nil ?_
  | refine sw_par ?_
  | refine sw_next ?_
  | refine sw_if ?_
  | refine sw_ret ?_
  | refine tw_not ?_
  | refine tw_and ?_
  | refine tw_or ?_
  | refine tw_test ?_
  | refine tw_B ?_
  | refine tw_tru rfl ?_
  | refine ew_andV ?_
  | refine ew_orV ?_
  | refine ew_notV ?_
  | refine ew_if ?_
  | refine ew_chain ?_
  | refine ew_isN ?_
  | refine ew_tup ?_
  | refine ew_lst ?_
  | refine ew_isiD isN_int rfl ?_
  | refine ew_isiD isN_bool rfl ?_
  | refine ew_isiD isN_tuple rfl ?_
  | refine ew_isiD isN_list rfl ?_
  | refine ew_isiD isN_str rfl ?_
  | refine ew_isi2D isN_list isN_tuple rfl ?_
  | refine ew_isi2D isN_tuple isN_list rfl ?_
  | refine ew_cb ?_
  | refine ew_neg ?_
  | refine ew_op ?_
  | refine ⟨_, opv_int, ?_⟩
  | refine ⟨_, opv_cmp, ?_⟩
  | refine ⟨_, opv_eq, ?_⟩
  | refine ⟨_, opv_ne, ?_⟩
  | refine ⟨_, opv_eqB, ?_⟩
  | refine ⟨_, opv_eqS, ?_⟩
  | refine ⟨_, cbv_abs, ?_⟩
  | refine ⟨_, cbv_max2, ?_⟩
  | refine ⟨_, cbv_min2, ?_⟩
  | refine pw_none ?_
  | refine pw_some ?_
  | refine ⟨_, cbv_int, ?_⟩
  | refine ⟨_, rfl, ?_⟩
  | refine ⟨_, _, rfl, ?_⟩
  | refine ⟨_, _, _, rfl, ?_⟩
  | refine ⟨_, _, _, _, rfl, ?_⟩
  | refine br_t ?_
  | refine br_f ?_
  | refine ⟨dt_int, ?_⟩
  | refine ⟨dt_bl, ?_⟩
  | refine ⟨dt_str, ?_⟩
  | refine ⟨dt_non, ?_⟩
  | refine ⟨dt_tup, ?_⟩
  | refine ⟨dt_lst, ?_⟩
  | refine sw_asg ?_
  | refine sw_drop ?_)
local macro_rules | `(tactic| walk_at "r1") => `(tactic| first
  | ((with_reducible refine ew_tupL ?hK ?_); (case hK => rfl))
  | ((with_reducible refine ew_catT ?hK ?_); (case hK => rfl))
  | ((with_reducible refine ew_repT ?hK ?_); (case hK => rfl))
  | ((with_reducible refine ew_of_eb (eb_listL ?hK ?_)); (case hK => rfl))
  | ((with_reducible refine ew_of_eb (eb_cutL ?hK ?_)); (case hK => rfl))
  | walk_at "r0"
  | ((with_reducible refine ew_of_eb (eb_mapT ?hV ?hK ?_)); (case hK => rfl); (case hV => rfl))
  | ((with_reducible refine ew_of_eb (eb_mapL ?hV ?hK ?_)); (case hK => rfl); (case hV => rfl))
  | ((with_reducible refine ew_of_eb (eb_mapR ?hV ?_)); (case hV => rfl))
  | ((with_reducible refine ew_callP ?hK trivial ?_); (case hK => rfl))
  | ((with_reducible refine ew_callW ?hK trivial ?_); (case hK => rfl))
  | ((with_reducible refine ew_callH ?hK trivial ?_); (case hK => rfl))
  | ((with_reducible refine ew_callR ?hK ?hF ?_); (case hK => rfl); (case hF => assumption))
  | ((with_reducible refine len_ok ?hK ?_); (case hK => rfl))
  | ((with_reducible refine ew_notT ?hK ?_); (case hK => rfl))
  | ((with_reducible refine ew_cutT ?hK ?_); (case hK => rfl))
  | ((with_reducible refine ⟨(?hK : Dt _ _), ?_⟩); (case hK => assumption))
  | ((with_reducible refine sw_unp2 ?hK ?hn ?_); (case hK => rfl); (case hn => rfl)))
local macro_rules | `(tactic| walk_at "side") => `(tactic| first
  | exact Or.inr (by decide)
  | exact Or.inl (by decide)
  | exact ⟨by decide, by decide⟩
  | exact ⟨by decide, by decide, by decide⟩
  | decide
  | (dsimp only; decide)
  | exact mw (by assumption) (by assumption))
local macro_rules | `(tactic| walk_at "r2") => `(tactic| first
  | walk_at "r1"
  | ((with_reducible refine ⟨_, opv_intC ?hC, ?_⟩); (case hC => walk_at "side"))
  | ((with_reducible refine ⟨_, cbv_lenL ?hK, ?_⟩); (case hK => rfl))
  | ((with_reducible refine ⟨_, cbv_allM ?hK, ?_⟩); (case hK => rfl))
  | ((with_reducible refine ⟨_, cbv_anyM ?hK, ?_⟩); (case hK => rfl))
  | ((with_reducible refine ⟨_, cbv_sumM ?hK, ?_⟩); (case hK => rfl))
  | ((with_reducible refine ⟨_, cbv_lenT ?hK, ?_⟩); (case hK => rfl))
  | (with_reducible refine ⟨_, opv_ixT (by with_unfolding_all rfl) (by with_unfolding_all rfl), ?_⟩)
  | refine br_t ?_
  | refine br_f ?_)
local macro_rules | `(tactic| walk_at "rd") => `(tactic| repeat (walk_at "r2"))
local macro_rules | `(tactic| walk_at "rs") => `(tactic| repeat ((fail_if_success (with_reducible refine sw_isif ?_)); walk_at "r2"))
local macro_rules | `(tactic| walk_at "nf") => `(tactic| (try simp only [List.set_cons_zero, List.set_cons_succ, Dl.sets, Dl.asD]))
local macro_rules | `(tactic| walk_at "ru") => `(tactic| repeat ((fail_if_success (with_reducible refine sw_seq ?_)); walk_at "r2"))

abbrev c__law_mixed : Cn := fun K w ds Ψ Ξ => ∃ xs, ds = [.ptr w, .lst xs] ∧ xs.length ≤ 1000 ∧ ∀ ys, ys.Perm xs → Ψ (.ow (.lst ys))
theorem pick_perm {α : Type} : ∀ {l : List α} {k : Nat} (h : k < l.length), (l[k] :: l.eraseIdx k).Perm l
  | x :: l, 0, _ => List.Perm.refl _
  | x :: l, k + 1, h => (List.Perm.swap x (l[k]'(Nat.lt_of_succ_lt_succ h)) (l.eraseIdx k)).trans (List.Perm.cons x (pick_perm (Nat.lt_of_succ_lt_succ h)))
theorem l__law_mixed : ∀ K w ds Ψ Ξ, c__law_mixed K w ds Ψ Ξ → ds.length = 2 := fun K w ds Ψ Ξ h => by
  obtain ⟨_, rfl, _⟩ := h
  rfl
theorem ok__law_mixed {P : Program} {w : World} {K : PySem.W.Frag} {mg : Str → Option Value} {base : Heap} {A : Ad} (T : Txt K mg A) : FnOk P w K mg base CX0 2 A._law_mixed A.fd__law_mixed ["box", "rows"] (SpD K IsBox c__law_mixed) := by
  refine Fun.ok T.F__law_mixed sc__law_mixed (fun vs H Q E h => spd_len (l__law_mixed) h) (fun cdv A' outer s H vs Q E hr h => ⟨_, (pss_cons (ps_set (i := 2) sc__law_mixed.nd rfl (.inl rfl) (pe_callTy call_list_of (by rfl) T.b_list (by decide +kernel) (pa_cons (pv 1) pa_nil)))
        (pss_cons (ps_set (i := 3) sc__law_mixed.nd rfl (.inl rfl) (pe_lst pa_nil))
        (pss_cons (ps_for PassesOwn.never rfl (pi_range1 (by rfl) T.b_range (pa_cons (pe_callB call_len_seq (by rfl) T.b_len (by decide +kernel) (pa_cons (pv 2) pa_nil)) pa_nil)) (pg_name (i := 4) sc__law_mixed.nd rfl (.inl rfl)) (pss_one (ps_expr (pe_bm PySem.F.plainAttrs_list PySem.F.slot_list_append PySem.F.type_list_append mt_append (pv 3) (pa_cons (pe_bm PySem.F.plainAttrs_list PySem.F.slot_list_pop PySem.F.type_list_pop mt_popAt (pv 2) (pa_cons (pe_call (ok__law_draw T) (hr.mono (by decide)) (by rfl) T.m__law_draw T.F__law_draw.kp (b__law_draw T) .nil pass0 (pa_cons (pv 0) (pa_cons (pe_callB call_len_seq (by rfl) T.b_len (by decide +kernel) (pa_cons (pv 2) pa_nil)) pa_nil))) pa_nil)) pa_nil)))))
        (pss_one (ps_ret (pv 3)))))), ?_⟩)
  refine body_ok 2 (by decide) (l__law_mixed) h (fun Γ ds Ψ Ξ hK hX hF hc ke => ?_)
  subst hK
  obtain ⟨xs, rfl, hl, hc⟩ := hc
  refine sw_seq (sw_asgB (eb_listL rfl (ew_var rfl ⟨_, .inl rfl, ?_⟩)))
  refine sw_seq (sw_asgB (eb_lst (aw_nil ⟨by decide, ?_⟩)))
  refine sw_seq (sw_forR (aw_cons (ew_lenO rfl rfl (aw_nil ⟨_, rfl, by constructor <;> omega, fun i ρ => ∃ (ls os : List D) (b : Option B), (os ++ ls).Perm xs ∧ ls.length = xs.length - i ∧ ρ = [some (.fz (.ptr Γ.R.w)), some (.fz (.lst xs)), some (.ow (.lst ls)), some (.ow (.lst os)), b], ⟨xs, [], none, List.Perm.refl _, by omega, rfl⟩, ?_, ?_⟩))))
  · rintro i ρ2 hi ⟨ls, os, b, hp, hn, rfl⟩
    rw [Int.toNat_natCast] at hi
    have hpl := hp.length_eq
    rw [List.length_append] at hpl
    refine ⟨_, gd_name, ?_⟩
    refine sw_app rfl (ew_popO rfl (ew_callR rfl hF (aw_cons (ew_var rfl (aw_cons (ew_lenO rfl rfl (aw_nil ⟨_, rfl, by omega, by omega, fun d d0 d1 => ?_⟩)))))))
    obtain ⟨k, rfl⟩ := Int.eq_ofNat_of_zero_le d0
    have hk : k < ls.length := by omega
    refine ⟨(k : Int), ls, k, ls[k], rfl, rfl, by constructor <;> omega, seqN hk, List.getElem?_eq_getElem hk, os, rfl, by omega, ?_⟩
    refine ⟨ls.eraseIdx k, os ++ [ls[k]], some (.fz (.int (i : Int))), ?_, ?_, rfl⟩
    · rw [List.append_assoc]
      exact (List.Perm.append_left os (pick_perm hk)).trans hp
    · rw [List.length_eraseIdx_of_lt hk]
      omega
  · rintro ρ2 ⟨ls, os, b, hp, hn, rfl⟩
    rw [Int.toNat_natCast] at hn
    have : ls = [] := List.eq_nil_of_length_eq_zero (by omega)
    subst this
    rw [List.append_nil] at hp
    exact sw_retO rfl (hc os hp)
/-- data that is compared: numbers, truths, None, texts and tuples of such, n deep -/
inductive SD : Nat → D → Prop
  | non (n : Nat) : SD n .non
  | bl (n : Nat) (b : Bool) : SD n (.bl b)
  | int (n : Nat) (i : Int) : SD n (.int i)
  | str (n : Nat) (x : Str) : SD n (.str x)
  | tup (n : Nat) (ds : List D) (h : ∀ d ∈ ds, SD n d) (hl : ds.length ≤ 100000) : SD (n + 1) (.tup ds)
theorem SD.kn {n : Nat} {d : D} (h : SD n d) : Kn d := by cases h <;> exact ⟨_, rfl⟩
abbrev c_same (n : Nat) : Cn := fun K w ds Ψ Ξ => ∃ d, ds = [d, d] ∧ SD n d ∧ Ψ (.fz (.bl true))
theorem l_same (n : Nat) : ∀ K w ds Ψ Ξ, c_same n K w ds Ψ Ξ → ds.length = 2 := fun K w ds Ψ Ξ h => by
  obtain ⟨_, rfl, _⟩ := h
  rfl
theorem same_step {P : Program} {w : World} {K : PySem.W.Frag} {mg : Str → Option Value} {base : Heap} {A : Ad} (T : Txt K mg A) {n k : Nat} {sp : Sp} (G : FnOk P w K mg base CX0 k A._law_same A.fd__law_same ["came", "due"] sp) (hsp : ∀ m, n = m + 1 → sp = SpD K AnyR (c_same m)) :
    FnOk P w K mg base CX0 (k + 1) A._law_same A.fd__law_same ["came", "due"] (SpD K AnyR (c_same n)) := by
  refine T.F__law_same.ok sc__law_same (fun vs H Q E h => spd_len (l_same n) h) (fun cdv A' outer s H vs Q E hr h => ⟨_,
(pss_cons (ps_if (pt_cmpR op_isN (pv 1) pe_non (nomark _)) (pss_one (ps_ret (pe_cmpR op_isN (pv 0) pe_non (nomark _)))) pss_nil)
        (pss_cons (ps_if (pt_val (pe_callB call_isi (by rfl) T.b_isinstance (by decide +kernel) (pa_cons (pv 1) (pa_cons (pe_bltn (v := .ty "bool") (by rfl) T.b_bool (by decide +kernel) rfl) pa_nil)))) (pss_one (ps_ret (pe_and (pe_callB call_isi (by rfl) T.b_isinstance (by decide +kernel) (pa_cons (pv 0) (pa_cons (pe_bltn (v := .ty "bool") (by rfl) T.b_bool (by decide +kernel) rfl) pa_nil))) (pe_one (pe_cmpR op_eq (pv 0) (pv 1) (nomark _)))))) pss_nil)
        (pss_cons (ps_if (pt_val (pe_callB call_isi (by rfl) T.b_isinstance (by decide +kernel) (pa_cons (pv 1) (pa_cons (pe_bltn (v := .ty "int") (by rfl) T.b_int (by decide +kernel) rfl) pa_nil)))) (pss_one (ps_ret (pe_and (pe_callB call_isi (by rfl) T.b_isinstance (by decide +kernel) (pa_cons (pv 0) (pa_cons (pe_bltn (v := .ty "int") (by rfl) T.b_int (by decide +kernel) rfl) pa_nil))) (pe_and (pe_not (pe_callB call_isi (by rfl) T.b_isinstance (by decide +kernel) (pa_cons (pv 0) (pa_cons (pe_bltn (v := .ty "bool") (by rfl) T.b_bool (by decide +kernel) rfl) pa_nil)))) (pe_one (pe_cmpR op_eq (pv 0) (pv 1) (nomark _))))))) pss_nil)
        (pss_cons (ps_if (pt_val (pe_callB call_isi (by rfl) T.b_isinstance (by decide +kernel) (pa_cons (pv 1) (pa_cons (pe_bltn (v := .ty "str") (by rfl) T.b_str (by decide +kernel) rfl) pa_nil)))) (pss_one (ps_ret (pe_and (pe_callB call_isi (by rfl) T.b_isinstance (by decide +kernel) (pa_cons (pv 0) (pa_cons (pe_bltn (v := .ty "str") (by rfl) T.b_str (by decide +kernel) rfl) pa_nil))) (pe_one (pe_cmpR op_eq (pv 0) (pv 1) (nomark _)))))) pss_nil)
        (pss_cons (ps_if (PW.pt (pw_and (pt_val (pe_callB call_isi (by rfl) T.b_isinstance (by decide +kernel) (pa_cons (pv 1) (pa_cons (pe_bltn (v := .ty "tuple") (by rfl) T.b_tuple (by decide +kernel) rfl) pa_nil)))) (pw_and1 (pt_not (pt_val (pe_callB call_isi (by rfl) T.b_isinstance (by decide +kernel) (pa_cons (pv 0) (pa_cons (pe_bltn (v := .ty "tuple") (by rfl) T.b_tuple (by decide +kernel) rfl) pa_nil)))))))) (pss_one (ps_ret pe_bl)) pss_nil)
        (pss_cons (ps_if (PW.pt (pw_and (pt_val (pe_callB call_isi (by rfl) T.b_isinstance (by decide +kernel) (pa_cons (pv 1) (pa_cons (pe_bltn (v := .ty "list") (by rfl) T.b_list (by decide +kernel) rfl) pa_nil)))) (pw_and1 (pt_not (pt_val (pe_callB call_isi (by rfl) T.b_isinstance (by decide +kernel) (pa_cons (pv 0) (pa_cons (pe_bltn (v := .ty "list") (by rfl) T.b_list (by decide +kernel) rfl) pa_nil)))))))) (pss_one (ps_ret pe_bl)) pss_nil)
        (pss_cons (ps_if (pt_cmpR op_ne (pe_callB call_len_seq (by rfl) T.b_len (by decide +kernel) (pa_cons (pv 0) pa_nil)) (pe_callB call_len_seq (by rfl) T.b_len (by decide +kernel) (pa_cons (pv 1) pa_nil)) (nomark _)) (pss_one (ps_ret pe_bl)) pss_nil)
        (pss_cons (ps_for PassesOwn.never rfl (pi_range1 (by rfl) T.b_range (pa_cons (pe_callB call_len_seq (by rfl) T.b_len (by decide +kernel) (pa_cons (pv 1) pa_nil)) pa_nil)) (pg_name (i := 2) sc__law_same.nd rfl (.inl rfl)) (pss_one (ps_if (pt_not (pt_val (pe_call (G) hr (by rfl) T.m__law_same T.F__law_same.kp (b__law_same T) .nil pass0 (pa_cons (pe_ix ix_tup (pv 0) (pv 2) (fun _ _ => rfl)) (pa_cons (pe_ix ix_tup (pv 1) (pv 2) (fun _ _ => rfl)) pa_nil))))) (pss_one (ps_ret pe_bl)) pss_nil)))
        (pss_one (ps_ret pe_bl))))))))))
    , ?_⟩)
  refine body_ok 2 (by decide) (l_same n) h (fun Γ ds Ψ Ξ hK hX hF hc ke => ?_)
  subst hK
  obtain ⟨d, rfl, hd, hc⟩ := hc
  cases hd with
  | non n =>
    walk_at "rd"
    exact hc
  | bl n b =>
    walk_at "rd"
    rw [decide_eq_true rfl]
    exact hc
  | int n i =>
    walk_at "rd"
    rw [decide_eq_true rfl]
    exact hc
  | str n x =>
    walk_at "rd"
    rw [decide_eq_true rfl]
    exact hc
  | tup n ds hs hl =>
    have esp := hsp n rfl
    subst esp
    walk_at "rd"
    rw [decide_eq_true rfl]
    walk_at "rd"
    refine sw_forR (aw_cons (ew_cb (aw_cons (ew_var rfl (aw_nil ⟨_, cbv_lenT rfl, aw_nil ⟨_, rfl, by constructor <;> omega, fun i ρ => ∃ b, ρ = [some (.fz (.tup ds)), some (.fz (.tup ds)), b], ⟨none, rfl⟩, ?_, ?_⟩⟩)))))
    · rintro i ρ2 hi ⟨b, rfl⟩
      have hi' : i < ds.length := by omega
      obtain ⟨x, hx⟩ : ∃ x, ds[i]? = some x := ⟨ds[i], List.getElem?_eq_getElem hi'⟩
      refine ⟨_, gd_name, ?_⟩
      walk_at "rd"
      refine ⟨_, opv_ixT rfl (at_nat hx), ?_⟩
      walk_at "rd"
      refine ⟨_, opv_ixT rfl (at_nat hx), ?_⟩
      walk_at "rd"
      refine ⟨hs x (List.mem_of_getElem? hx), _, rfl, ?_⟩
      walk_at "rd"
      exact ⟨_, rfl⟩
    · rintro ρ2 ⟨b, rfl⟩
      walk_at "rd"
      exact hc
theorem ok_same {P : Program} {w : World} {K : PySem.W.Frag} {mg : Str → Option Value} {base : Heap} {A : Ad} (T : Txt K mg A) : ∀ n, FnOk P w K mg base CX0 (n + 2) A._law_same A.fd__law_same ["came", "due"] (SpD K AnyR (c_same n))
  | 0 => same_step T (k := 1) (T.F__law_same.ok sc__law_same (sp := fun _ _ _ _ => False) (fun _ _ _ _ h => h.elim) (fun _ _ _ _ _ _ _ _ _ h => h.elim)) (fun _ e => by cases e)
  | n + 1 => same_step T (ok_same T n) (fun m e => by cases e; rfl)
abbrev c__law_same : Cn := c_same 4
theorem ok__law_same {P : Program} {w : World} {K : PySem.W.Frag} {mg : Str → Option Value} {base : Heap} {A : Ad} (T : Txt K mg A) : FnOk P w K mg base CX0 6 A._law_same A.fd__law_same ["came", "due"] (SpD K AnyR c__law_same) := ok_same T 4
theorem same_stepH {P : Program} {w : World} {K : PySem.W.Frag} {mg : Str → Option Value} {base : Heap} {A : Ad} (T : Txt K mg A) {n k : Nat} {sp : Sp} (G : L2H.FnH P w K mg base CX0 k A._law_same A.fd__law_same ["came", "due"] sp) (hsp : ∀ m, n = m + 1 → sp = SpD K AnyR (c_same m)) :
    L2H.FnH P w K mg base CX0 (k + 1) A._law_same A.fd__law_same ["came", "due"] (SpD K AnyR (c_same n)) := by
  refine okH T.F__law_same sc__law_same (fun vs H Q E h => spd_len (l_same n) h) (fun cdv A' outer s H vs Q E p hc hr h => ⟨_,
(pss_cons (ps_if (pt_cmpR op_isN (pv 1) pe_non (nomark _)) (pss_one (ps_ret (pe_cmpR op_isN (pv 0) pe_non (nomark _)))) pss_nil)
        (pss_cons (ps_if (pt_val (pe_callB call_isi (by rfl) T.b_isinstance (by decide +kernel) (pa_cons (pv 1) (pa_cons (pe_bltn (v := .ty "bool") (by rfl) T.b_bool (by decide +kernel) rfl) pa_nil)))) (pss_one (ps_ret (pe_and (pe_callB call_isi (by rfl) T.b_isinstance (by decide +kernel) (pa_cons (pv 0) (pa_cons (pe_bltn (v := .ty "bool") (by rfl) T.b_bool (by decide +kernel) rfl) pa_nil))) (pe_one (pe_cmpR op_eq (pv 0) (pv 1) (nomark _)))))) pss_nil)
        (pss_cons (ps_if (pt_val (pe_callB call_isi (by rfl) T.b_isinstance (by decide +kernel) (pa_cons (pv 1) (pa_cons (pe_bltn (v := .ty "int") (by rfl) T.b_int (by decide +kernel) rfl) pa_nil)))) (pss_one (ps_ret (pe_and (pe_callB call_isi (by rfl) T.b_isinstance (by decide +kernel) (pa_cons (pv 0) (pa_cons (pe_bltn (v := .ty "int") (by rfl) T.b_int (by decide +kernel) rfl) pa_nil))) (pe_and (pe_not (pe_callB call_isi (by rfl) T.b_isinstance (by decide +kernel) (pa_cons (pv 0) (pa_cons (pe_bltn (v := .ty "bool") (by rfl) T.b_bool (by decide +kernel) rfl) pa_nil)))) (pe_one (pe_cmpR op_eq (pv 0) (pv 1) (nomark _))))))) pss_nil)
        (pss_cons (ps_if (pt_val (pe_callB call_isi (by rfl) T.b_isinstance (by decide +kernel) (pa_cons (pv 1) (pa_cons (pe_bltn (v := .ty "str") (by rfl) T.b_str (by decide +kernel) rfl) pa_nil)))) (pss_one (ps_ret (pe_and (pe_callB call_isi (by rfl) T.b_isinstance (by decide +kernel) (pa_cons (pv 0) (pa_cons (pe_bltn (v := .ty "str") (by rfl) T.b_str (by decide +kernel) rfl) pa_nil))) (pe_one (pe_cmpR op_eq (pv 0) (pv 1) (nomark _)))))) pss_nil)
        (pss_cons (ps_if (PW.pt (pw_and (pt_val (pe_callB call_isi (by rfl) T.b_isinstance (by decide +kernel) (pa_cons (pv 1) (pa_cons (pe_bltn (v := .ty "tuple") (by rfl) T.b_tuple (by decide +kernel) rfl) pa_nil)))) (pw_and1 (pt_not (pt_val (pe_callB call_isi (by rfl) T.b_isinstance (by decide +kernel) (pa_cons (pv 0) (pa_cons (pe_bltn (v := .ty "tuple") (by rfl) T.b_tuple (by decide +kernel) rfl) pa_nil)))))))) (pss_one (ps_ret pe_bl)) pss_nil)
        (pss_cons (ps_if (PW.pt (pw_and (pt_val (pe_callB call_isi (by rfl) T.b_isinstance (by decide +kernel) (pa_cons (pv 1) (pa_cons (pe_bltn (v := .ty "list") (by rfl) T.b_list (by decide +kernel) rfl) pa_nil)))) (pw_and1 (pt_not (pt_val (pe_callB call_isi (by rfl) T.b_isinstance (by decide +kernel) (pa_cons (pv 0) (pa_cons (pe_bltn (v := .ty "list") (by rfl) T.b_list (by decide +kernel) rfl) pa_nil)))))))) (pss_one (ps_ret pe_bl)) pss_nil)
        (pss_cons (ps_if (pt_cmpR op_ne (pe_callB call_len_seq (by rfl) T.b_len (by decide +kernel) (pa_cons (pv 0) pa_nil)) (pe_callB call_len_seq (by rfl) T.b_len (by decide +kernel) (pa_cons (pv 1) pa_nil)) (nomark _)) (pss_one (ps_ret pe_bl)) pss_nil)
        (pss_cons (L2H.ps_forH PassesOwn.never hc (L2H.pi_range1H (by rfl) T.b_range (pa_cons (pe_callB call_len_seq (by rfl) T.b_len (by decide +kernel) (pa_cons (pv 1) pa_nil)) pa_nil)) (pg_name (i := 2) sc__law_same.nd rfl (.inl rfl)) (pss_one (ps_if (pt_not (pt_val (L2H.pe_callH (G) hr hc (by rfl) T.m__law_same T.F__law_same.kp (b__law_same T) pass0A (pa_cons (pe_ix ix_tup (pv 0) (pv 2) (fun _ _ => rfl)) (pa_cons (pe_ix ix_tup (pv 1) (pv 2) (fun _ _ => rfl)) pa_nil))))) (pss_one (ps_ret pe_bl)) pss_nil)))
        (pss_one (ps_ret pe_bl))))))))))
    , ?_⟩)
  refine body_ok 2 (by decide) (l_same n) h (fun Γ ds Ψ Ξ hK hX hF hc ke => ?_)
  subst hK
  obtain ⟨d, rfl, hd, hc⟩ := hc
  cases hd with
  | non n =>
    walk_at "rd"
    exact hc
  | bl n b =>
    walk_at "rd"
    rw [decide_eq_true rfl]
    exact hc
  | int n i =>
    walk_at "rd"
    rw [decide_eq_true rfl]
    exact hc
  | str n x =>
    walk_at "rd"
    rw [decide_eq_true rfl]
    exact hc
  | tup n ds hs hl =>
    have esp := hsp n rfl
    subst esp
    walk_at "rd"
    rw [decide_eq_true rfl]
    walk_at "rd"
    refine sw_forR (aw_cons (ew_cb (aw_cons (ew_var rfl (aw_nil ⟨_, cbv_lenT rfl, aw_nil ⟨_, rfl, by constructor <;> omega, fun i ρ => ∃ b, ρ = [some (.fz (.tup ds)), some (.fz (.tup ds)), b], ⟨none, rfl⟩, ?_, ?_⟩⟩)))))
    · rintro i ρ2 hi ⟨b, rfl⟩
      have hi' : i < ds.length := by omega
      obtain ⟨x, hx⟩ : ∃ x, ds[i]? = some x := ⟨ds[i], List.getElem?_eq_getElem hi'⟩
      refine ⟨_, gd_name, ?_⟩
      walk_at "rd"
      refine ⟨_, opv_ixT rfl (at_nat hx), ?_⟩
      walk_at "rd"
      refine ⟨_, opv_ixT rfl (at_nat hx), ?_⟩
      walk_at "rd"
      refine ⟨hs x (List.mem_of_getElem? hx), _, rfl, ?_⟩
      walk_at "rd"
      exact ⟨_, rfl⟩
    · rintro ρ2 ⟨b, rfl⟩
      walk_at "rd"
      exact hc
theorem hok_same {P : Program} {w : World} {K : PySem.W.Frag} {mg : Str → Option Value} {base : Heap} {A : Ad} (T : Txt K mg A) : ∀ n, L2H.FnH P w K mg base CX0 (n + 2) A._law_same A.fd__law_same ["came", "due"] (SpD K AnyR (c_same n))
  | 0 => same_stepH T (k := 1) (okH T.F__law_same sc__law_same (sp := fun _ _ _ _ => False) (fun _ _ _ _ h => h.elim) (fun _ _ _ _ _ _ _ _ _ _ _ h => h.elim)) (fun _ e => by cases e)
  | n + 1 => same_stepH T (hok_same T n) (fun m e => by cases e; rfl)
theorem hok__law_same {P : Program} {w : World} {K : PySem.W.Frag} {mg : Str → Option Value} {base : Heap} {A : Ad} (T : Txt K mg A) : L2H.FnH P w K mg base CX0 6 A._law_same A.fd__law_same ["came", "due"] (SpD K AnyR c__law_same) := hok_same T 4
end Pf

namespace Pf
open PySem L2 Dl Sh
open Evl (Ex)
local macro_rules | `(tactic| walk_at "r0") => `(tactic| with_reducible first
  | refine sw_seq ?_
  | refine ew_var rfl ?_
  | refine ew_int ?_
  | refine ew_bl ?_
  | refine ew_non ?_
  | refine ew_str ?_
  | refine aw_cons ?_
  | refine aw_nil ?_
  | refine sw_par ?_
  | refine sw_next ?_
  | refine sw_if ?_
  | refine sw_ret ?_
  | refine tw_not ?_
  | refine tw_and ?_
  | refine tw_or ?_
  | refine tw_test ?_
  | refine tw_B ?_
  | refine tw_tru rfl ?_
  | refine ew_andV ?_
  | refine ew_orV ?_
  | refine ew_notV ?_
  | refine ew_if ?_
  | refine ew_chain ?_
  | refine ew_isN ?_
  | refine ew_tup ?_
  | refine ew_lst ?_
  | refine ew_isiD isN_int rfl ?_
  | refine ew_isiD isN_bool rfl ?_
  | refine ew_isiD isN_tuple rfl ?_
  | refine ew_isiD isN_list rfl ?_
  | refine ew_isiD isN_str rfl ?_
  | refine ew_isi2D isN_list isN_tuple rfl ?_
  | refine ew_isi2D isN_tuple isN_list rfl ?_
  | refine ew_cb ?_
  | refine ew_neg ?_
  | refine ew_op ?_
  | refine ⟨_, opv_int, ?_⟩
  | refine ⟨_, opv_cmp, ?_⟩
  | refine ⟨_, opv_eq, ?_⟩
  | refine ⟨_, opv_ne, ?_⟩
  | refine ⟨_, opv_eqB, ?_⟩
  | refine ⟨_, opv_eqS, ?_⟩
  | refine ⟨_, cbv_abs, ?_⟩
  | refine ⟨_, cbv_max2, ?_⟩
  | refine ⟨_, cbv_min2, ?_⟩
  | refine pw_none ?_
  | refine pw_some ?_
  | refine ⟨_, cbv_int, ?_⟩
  | refine ⟨_, rfl, ?_⟩
  | refine ⟨_, _, rfl, ?_⟩
  | refine ⟨_, _, _, rfl, ?_⟩
  | refine ⟨_, _, _, _, rfl, ?_⟩
  | refine br_t ?_
  | refine br_f ?_
  | refine ⟨dt_int, ?_⟩
  | refine ⟨dt_bl, ?_⟩
  | refine ⟨dt_str, ?_⟩
  | refine ⟨dt_non, ?_⟩
  | refine ⟨dt_tup, ?_⟩
  | refine ⟨dt_lst, ?_⟩
  | refine sw_asg ?_
  | refine sw_drop ?_)
local macro_rules | `(tactic| walk_at "r1") => `(tactic| first
  | ((with_reducible refine ew_tupL ?hK ?_); (case hK => rfl))
  | ((with_reducible refine ew_catT ?hK ?_); (case hK => rfl))
  | ((with_reducible refine ew_repT ?hK ?_); (case hK => rfl))
  | ((with_reducible refine ew_of_eb (eb_listL ?hK ?_)); (case hK => rfl))
  | ((with_reducible refine ew_of_eb (eb_cutL ?hK ?_)); (case hK => rfl))
  | walk_at "r0"
  | ((with_reducible refine ew_of_eb (eb_mapT ?hV ?hK ?_)); (case hK => rfl); (case hV => rfl))
  | ((with_reducible refine ew_of_eb (eb_mapL ?hV ?hK ?_)); (case hK => rfl); (case hV => rfl))
  | ((with_reducible refine ew_of_eb (eb_mapR ?hV ?_)); (case hV => rfl))
  | ((with_reducible refine ew_callP ?hK trivial ?_); (case hK => rfl))
  | ((with_reducible refine ew_callW ?hK trivial ?_); (case hK => rfl))
  | ((with_reducible refine ew_callH ?hK trivial ?_); (case hK => rfl))
  | ((with_reducible refine ew_callR ?hK ?hF ?_); (case hK => rfl); (case hF => assumption))
  | ((with_reducible refine len_ok ?hK ?_); (case hK => rfl))
  | ((with_reducible refine ew_notT ?hK ?_); (case hK => rfl))
  | ((with_reducible refine ew_cutT ?hK ?_); (case hK => rfl))
  | ((with_reducible refine ⟨(?hK : Dt _ _), ?_⟩); (case hK => assumption))
  | ((with_reducible refine sw_unp2 ?hK ?hn ?_); (case hK => rfl); (case hn => rfl)))
local macro_rules | `(tactic| walk_at "side") => `(tactic| first
  | exact Or.inr (by decide)
  | exact Or.inl (by decide)
  | exact ⟨by decide, by decide⟩
  | exact ⟨by decide, by decide, by decide⟩
  | decide
  | (dsimp only; decide)
  | exact mw (by assumption) (by assumption))
local macro_rules | `(tactic| walk_at "r2") => `(tactic| first
  | walk_at "r1"
  | ((with_reducible refine ⟨_, opv_intC ?hC, ?_⟩); (case hC => walk_at "side"))
  | ((with_reducible refine ⟨_, cbv_lenL ?hK, ?_⟩); (case hK => rfl))
  | ((with_reducible refine ⟨_, cbv_allM ?hK, ?_⟩); (case hK => rfl))
  | ((with_reducible refine ⟨_, cbv_anyM ?hK, ?_⟩); (case hK => rfl))
  | ((with_reducible refine ⟨_, cbv_sumM ?hK, ?_⟩); (case hK => rfl))
  | ((with_reducible refine ⟨_, cbv_lenT ?hK, ?_⟩); (case hK => rfl))
  | (with_reducible refine ⟨_, opv_ixT (by with_unfolding_all rfl) (by with_unfolding_all rfl), ?_⟩)
  | refine br_t ?_
  | refine br_f ?_)
local macro_rules | `(tactic| walk_at "rd") => `(tactic| repeat (walk_at "r2"))
local macro_rules | `(tactic| walk_at "rs") => `(tactic| repeat ((fail_if_success (with_reducible refine sw_isif ?_)); walk_at "r2"))
local macro_rules | `(tactic| walk_at "nf") => `(tactic| (try simp only [List.set_cons_zero, List.set_cons_succ, Dl.sets, Dl.asD]))
local macro_rules | `(tactic| walk_at "ru") => `(tactic| repeat ((fail_if_success (with_reducible refine sw_seq ?_)); walk_at "r2"))

theorem at_ex {ds : List D} {d : Int} (h0 : 0 ≤ d) (h1 : d < ds.length) : ∃ x, atI ds d = some x ∧ x ∈ ds := by
  obtain ⟨k, rfl⟩ := Int.eq_ofNat_of_zero_le h0
  have hk : k < ds.length := by omega
  exact ⟨ds[k], at_nat (List.getElem?_eq_getElem hk), List.getElem_mem hk⟩
theorem mem_cut {ds : List D} {lo hi : Option Int} {x : D} (h : x ∈ cutD ds lo hi) : x ∈ ds := List.mem_of_mem_drop (List.mem_of_mem_take h)
theorem cut_len {ds : List D} {lo hi : Option Int} : (cutD ds lo hi).length ≤ ds.length := by
  unfold cutD
  rw [List.length_take, List.length_drop]
  omega
theorem cut_to {row : List Int} {k : Nat} (h : k ≤ row.length) : cutD (row.map D.int) none (some (k : Int)) = (row.take k).map D.int := by
  unfold cutD
  rw [HT.sIx_none, HT.sIx_nat, List.length_map, Nat.min_eq_left h, List.drop_zero, Nat.sub_zero, List.map_take]
theorem cut_from {row : List Int} {k : Nat} (h : k ≤ row.length) : cutD (row.map D.int) (some (k : Int)) none = (row.drop k).map D.int := by
  unfold cutD
  rw [HT.sIx_none, HT.sIx_nat, List.length_map, Nat.min_eq_left h, List.map_drop]
  exact List.take_of_length_le (by rw [List.length_drop, List.length_map]; exact Nat.le_refl _)
theorem cut_head {α : Type} {f : α → D} {xs : List α} {k : Int} (h : 0 ≤ k) : cutD (xs.map f) none (some k) = (xs.take k.toNat).map f := by
  obtain ⟨k, rfl⟩ := Int.eq_ofNat_of_zero_le h
  unfold cutD
  rw [HT.sIx_none, HT.sIx_nat, List.length_map, List.drop_zero, Nat.sub_zero, List.map_take, Int.toNat_natCast]
  by_cases c : k ≤ xs.length
  · rw [Nat.min_eq_left c]
  · rw [Nat.min_eq_right (by omega), List.take_of_length_le (by rw [List.length_map]; exact Nat.le_refl _), List.take_of_length_le (by rw [List.length_map]; omega)]
theorem cut_tail {α : Type} {f : α → D} {xs : List α} {k : Nat} : cutD (xs.map f) (some (k : Int)) none = (xs.drop k).map f := by
  unfold cutD
  rw [HT.sIx_none, HT.sIx_nat, List.length_map]
  have e : (xs.map f).drop (min k xs.length) = (xs.drop k).map f := by
    rw [List.map_drop]
    by_cases c : k ≤ xs.length
    · rw [Nat.min_eq_left c]
    · rw [Nat.min_eq_right (by omega), List.drop_of_length_le (by rw [List.length_map]; exact Nat.le_refl _), List.drop_of_length_le (by rw [List.length_map]; omega)]
  rw [e]
  exact List.take_of_length_le (by rw [List.length_map, List.length_drop]; omega)
theorem ties_app {n : Int} {ts us : List (Int × Int)} (h1 : TiesOk n ts) (h2 : TiesOk n us) : TiesOk n (ts ++ us) := fun p hp => by
  rcases List.mem_append.mp hp with h | h
  · exact h1 p h
  · exact h2 p h
theorem ties_one {n : Int} {p : Int × Int} (h : 0 ≤ p.1 ∧ p.1 ≤ p.2 ∧ p.2 < n) : TiesOk n [p] := fun q hq => by
  rw [List.mem_singleton.mp hq]
  exact h
theorem ties_nil {n : Int} : TiesOk n [] := fun p h => absurd h (by simp)
theorem ties_map {n : Int} {α : Type} {xs : List α} {f : α → Int × Int} (h : ∀ x ∈ xs, 0 ≤ (f x).1 ∧ (f x).1 ≤ (f x).2 ∧ (f x).2 < n) : TiesOk n (xs.map f) := fun q hq => by
  obtain ⟨x, hx, rfl⟩ := List.mem_map.mp hq
  exact h x hx
def pathT : D → D
  | .int k => shD (k, k + 1)
  | _ => .non
def nameT (named : List Int) : D → D
  | .tup [.int i, .int j] => shD (min (named.getD i.toNat 0) (named.getD j.toNat 0), max (named.getD i.toNat 0) (named.getD j.toNat 0))
  | _ => .non
@[reducible] def lsD (p : Int × Int) : D := .lst [.int p.1, .int p.2]
/-- pairs handed in: as a tuple, as a list, as a list of lists -/
def ToldD (ts : List (Int × Int)) (d : D) : Prop := d = .tup (ts.map shD) ∨ d = .lst (ts.map shD) ∨ d = .lst (ts.map lsD)
abbrev c__law_told : Cn := fun K w ds Ψ Ξ => ∃ ts : List (Int × Int), ds = [.ptr w, .lst (ts.map shD)] ∧ ts.length ≤ 1000 ∧ ∀ d, ToldD ts d → Ψ (.fz d)
def lsF : D → D
  | .tup [.int a, .int b] => lsD (a, b)
  | _ => .non
theorem l__law_told : ∀ K w ds Ψ Ξ, c__law_told K w ds Ψ Ξ → ds.length = 2 := fun K w ds Ψ Ξ h => by
  obtain ⟨_, rfl, _⟩ := h
  rfl
theorem ok__law_told {P : Program} {w : World} {K : PySem.W.Frag} {mg : Str → Option Value} {base : Heap} {A : Ad} (T : Txt K mg A) : FnOk P w K mg base CX0 2 A._law_told A.fd__law_told ["box", "pairs"] (SpD K IsBox c__law_told) := by
  refine Fun.ok T.F__law_told sc__law_told (fun vs H Q E h => spd_len (l__law_told) h) (fun cdv A' outer s H vs Q E hr h => ⟨_, (pss_cons (ps_set (i := 2) sc__law_told.nd rfl (.inl rfl) (pe_call (ok__law_draw T) (hr.mono (by decide)) (by rfl) T.m__law_draw T.F__law_draw.kp (b__law_draw T) .nil pass0 (pa_cons (pv 0) (pa_cons pe_int pa_nil))))
        (pss_cons (ps_if (pt_cmpR op_eq (pv 2) pe_int (nomark _)) (pss_one (ps_ret (pe_callTy call_tuple_of (by rfl) T.b_tuple (by decide +kernel) (pa_cons (pv 1) pa_nil)))) pss_nil)
        (pss_cons (ps_if (pt_cmpR op_eq (pv 2) pe_int (nomark _)) (pss_one (ps_ret (pe_callTy call_list_of (by rfl) T.b_list (by decide +kernel) (pa_cons (pv 1) pa_nil)))) pss_nil)
        (pss_one (ps_ret (pe_lc (own := [("pair", 3)]) (by rfl) sc__law_told.nd (pi_list (pv 1)) (blkOk_by (own := [("pair", 3)]) (N := ["box", "pairs", "way", "pair"]) (sc := defScope s__law_told) (by decide +kernel)) (fun _ _ _ _ _ => (pg_name (i := 3) sc__law_told.nd rfl (.inl rfl))) (fun _ _ _ _ _ => pts_nil) (fun _ _ _ _ _ => (pe_callTy (by exact (show CallR _ _ (rListOf K) from call_list_of)) (by rfl) T.b_list (by decide +kernel) (pa_cons (pv 3) pa_nil))))))))), ?_⟩)
  refine body_ok 2 (by decide) (l__law_told) h (fun Γ ds Ψ Ξ hK hX hF hc ke => ?_)
  subst hK
  obtain ⟨ts, rfl, hl, hc⟩ := hc
  walk_at "rd"
  refine ⟨by decide, by decide, fun way w0 w1 => ?_⟩
  walk_at "rd"
  refine ⟨fun h1 => ?_, fun h1 => ?_⟩
  · walk_at "rd"
    exact hc _ (.inl rfl)
  · walk_at "rd"
    refine ⟨fun h2 => ?_, fun h2 => ?_⟩
    · walk_at "rd"
      exact ⟨_, .inl rfl, hc _ (.inr (.inl rfl))⟩
    · walk_at "rd"
      refine ⟨(fun es z => by cases z), by rw [List.length_map]; omega, lsF, fun x hx c => ?_, ?_⟩
      · obtain ⟨p, hp, rfl⟩ := List.mem_map.mp hx
        walk_at "rd"
        exact ⟨_, .inr rfl, rfl, rfl⟩
      · have e : (ts.map shD).map lsF = ts.map lsD := by
          rw [List.map_map]
          rfl
        rw [e]
        exact hc _ (.inr (.inr rfl))
abbrev c__law_looped : Cn := fun K w ds Ψ Ξ => ∃ (n : Int) (ts : List (Int × Int)), ds = [.ptr w, .int n, .lst (ts.map shD)] ∧ 0 ≤ n ∧ n ≤ 1000 ∧ TiesOk n ts ∧ ts.length ≤ 1000 ∧ ∀ us, TiesOk n us → us.length ≤ ts.length + 1 → Ψ (.ow (.lst (us.map shD)))
theorem at_two {p : Int × Int} {k : Nat} (h : k < 2) : ∃ i : Int, atI [D.int p.1, D.int p.2] (k : Int) = some (.int i) ∧ (i = p.1 ∨ i = p.2) := by
  match k, h with
  | 0, _ => exact ⟨p.1, at_nat (j := 0) rfl, .inl rfl⟩
  | 1, _ => exact ⟨p.2, at_nat (j := 1) rfl, .inr rfl⟩
theorem ties_set {n : Int} {ts : List (Int × Int)} {k : Nat} {p : Int × Int} (h : TiesOk n ts) (hp : 0 ≤ p.1 ∧ p.1 ≤ p.2 ∧ p.2 < n) : TiesOk n (ts.set k p) := fun q hq => by
  rcases List.mem_or_eq_of_mem_set hq with hq | rfl
  · exact h q hq
  · exact hp
theorem l__law_looped : ∀ K w ds Ψ Ξ, c__law_looped K w ds Ψ Ξ → ds.length = 3 := fun K w ds Ψ Ξ h => by
  obtain ⟨_, _, rfl, _⟩ := h
  rfl
theorem ok__law_looped {P : Program} {w : World} {K : PySem.W.Frag} {mg : Str → Option Value} {base : Heap} {A : Ad} (T : Txt K mg A) : FnOk P w K mg base CX0 2 A._law_looped A.fd__law_looped ["box", "size", "ties"] (SpD K IsBox c__law_looped) := by
  refine Fun.ok T.F__law_looped sc__law_looped (fun vs H Q E h => spd_len (l__law_looped) h) (fun cdv A' outer s H vs Q E hr h => ⟨_, (pss_cons (ps_set (i := 3) sc__law_looped.nd rfl (.inl rfl) (pe_callTy call_list_of (by rfl) T.b_list (by decide +kernel) (pa_cons (pv 2) pa_nil)))
        (pss_cons (ps_if (PW.pt (pw_and (pt_cmpR op_gt (pv 1) pe_int (nomark _)) (pw_and (pt_cmpR op_eq (pe_callB call_len_seq (by rfl) T.b_len (by decide +kernel) (pa_cons (pv 3) pa_nil)) pe_int (nomark _)) (pw_and1 (pt_cmpR op_eq (pe_call (ok__law_draw T) (hr.mono (by decide)) (by rfl) T.m__law_draw T.F__law_draw.kp (b__law_draw T) .nil pass0 (pa_cons (pv 0) (pa_cons pe_int pa_nil))) pe_int (nomark _)))))) (pss_cons (ps_set (i := 4) sc__law_looped.nd rfl (.inl rfl) (pe_call (ok__law_draw T) (hr.mono (by decide)) (by rfl) T.m__law_draw T.F__law_draw.kp (b__law_draw T) .nil pass0 (pa_cons (pv 0) (pa_cons (pv 1) pa_nil))))
        (pss_one (ps_ret (pe_lst (pa_cons (pe_tup (pa_cons (pv 4) (pa_cons (pv 4) pa_nil))) pa_nil))))) pss_nil)
        (pss_cons (ps_for PassesOwn.never rfl (pi_range1 (by rfl) T.b_range (pa_cons pe_int pa_nil)) (pg_name (i := 5) sc__law_looped.nd rfl (.inl rfl)) (pss_one (ps_if (PW.pt (pw_and (pt_cmpR op_gt (pe_callB call_len_seq (by rfl) T.b_len (by decide +kernel) (pa_cons (pv 3) pa_nil)) pe_int (nomark _)) (pw_and1 (pt_cmpR op_eq (pe_call (ok__law_draw T) (hr.mono (by decide)) (by rfl) T.m__law_draw T.F__law_draw.kp (b__law_draw T) .nil pass0 (pa_cons (pv 0) (pa_cons pe_int pa_nil))) pe_int (nomark _))))) (pss_cons (ps_set (i := 4) sc__law_looped.nd rfl (.inl rfl) (pe_call (ok__law_draw T) (hr.mono (by decide)) (by rfl) T.m__law_draw T.F__law_draw.kp (b__law_draw T) .nil pass0 (pa_cons (pv 0) (pa_cons (pe_callB call_len_seq (by rfl) T.b_len (by decide +kernel) (pa_cons (pv 3) pa_nil)) pa_nil))))
        (pss_one (ps_asg (pe_tup (pa_cons (pe_ix ix_tup (pe_ix ix_list (pv 3) (pv 4) (fun _ _ => rfl)) (pv 5) (fun _ _ => rfl)) (pa_cons (pe_ix ix_tup (pe_ix ix_list (pv 3) (pv 4) (fun _ _ => rfl)) (pv 5) (fun _ _ => rfl)) pa_nil))) (pg_sub (pv 3) (pv 4) set_list)))) pss_nil)))
        (pss_one (ps_ret (pv 3)))))), ?_⟩)
  refine body_ok 3 (by decide) (l__law_looped) h (fun Γ ds Ψ Ξ hK hX hF hc ke => ?_)
  subst hK
  obtain ⟨n, ts, rfl, n0, n1, ht, hl, hc⟩ := hc
  refine sw_seq (sw_asgB (eb_listL rfl (ew_var rfl ⟨_, .inl rfl, ?_⟩)))
  refine sw_cut (fun ρ => ρ = [some (.fz (.ptr Γ.R.w)), some (.fz (.int n)), some (.fz (.lst (ts.map shD))), some (.ow (.lst (ts.map shD))), none, none]) ?_ ?_
  · refine sw_if (tw_and ?_)
    walk_at "rd"
    refine ⟨fun h1 => ?_, fun h1 => ?_⟩
    · have hn : 0 < n := of_decide_eq_true h1
      refine tw_and (tw_test (ew_op (ew_lenO rfl rfl (ew_int ⟨_, opv_eq, _, rfl, fun h2 => ?_, fun h2 => ?_⟩))))
      · walk_at "rd"
        refine ⟨by decide, by decide, fun d d0 d1 => ?_⟩
        walk_at "rd"
        refine ⟨fun h3 => ?_, fun h3 => ?_⟩
        · walk_at "rd"
          refine ⟨by omega, by omega, fun a a0 a1 => ?_⟩
          refine sw_retB (eb_lst (aw_cons ?_))
          walk_at "rd"
          exact hc [(a, a)] (ties_one ⟨a0, Int.le_refl _, a1⟩) (by show 1 ≤ _; omega)
        · walk_at "rd"
          rfl
      · walk_at "rd"
        rfl
    · walk_at "rd"
      rfl
  · rintro ρ rfl
    refine sw_seq (sw_forR (aw_cons (ew_int (aw_nil ⟨2, rfl, by decide, fun i ρ => ∃ (us : List (Int × Int)) (c4 c5 : Option B), TiesOk n us ∧ us.length = ts.length ∧ ρ = [some (.fz (.ptr Γ.R.w)), some (.fz (.int n)), some (.fz (.lst (ts.map shD))), some (.ow (.lst (us.map shD))), c4, c5], ⟨ts, none, none, ht, rfl, rfl⟩, ?_, ?_⟩))))
    · rintro i ρ2 hi ⟨us, c4, c5, hu, hul, rfl⟩
      refine ⟨_, gd_name, ?_⟩
      refine sw_if (tw_and (tw_test (ew_op (ew_lenO rfl rfl (ew_int ⟨_, opv_cmp, _, rfl, fun h1 => ?_, fun h1 => ?_⟩)))))
      · rw [List.length_map] at h1
        have hup : (0 : Int) < us.length := of_decide_eq_true h1
        walk_at "rd"
        refine ⟨by decide, by decide, fun d d0 d1 => ?_⟩
        walk_at "rd"
        refine ⟨fun h3 => ?_, fun h3 => ?_⟩
        · refine sw_seq (sw_asg (ew_callR rfl hF (aw_cons (ew_var rfl (aw_cons (ew_lenO rfl rfl (aw_nil ⟨_, rfl, ?_, ?_, fun a a0 a1 => ?_⟩)))))))
          · rw [List.length_map]
            omega
          · rw [List.length_map]
            omega
          · rw [List.length_map] at a1
            obtain ⟨k, rfl⟩ := Int.eq_ofNat_of_zero_le a0
            have hk : k < us.length := by omega
            have hp := hu us[k] (List.getElem_mem hk)
            have hat : atI (us.map shD) (k : Int) = some (shD us[k]) := at_nat (by rw [List.getElem?_map, List.getElem?_eq_getElem hk]; rfl)
            have hi2 : i < 2 := hi
            obtain ⟨v, hv, hvv⟩ := at_two (p := us[k]) hi2
            refine sw_setO rfl (ew_tup (aw_cons (ew_op (ew_ixO rfl rfl (ew_var rfl ⟨(k : Int), _, _, rfl, rfl, hat, ew_var rfl ⟨_, opv_ixT rfl hv, ?_⟩⟩)))))
            refine aw_cons (ew_op (ew_ixO rfl rfl (ew_var rfl ⟨(k : Int), _, _, rfl, rfl, hat, ew_var rfl ⟨_, opv_ixT rfl hv, ?_⟩⟩)))
            refine aw_nil ⟨by show 2 ≤ 100000; omega, ?_⟩
            refine ew_var rfl ⟨(k : Int), k, us.map shD, rfl, rfl, rfl, by rw [List.length_map, ixN_of (by omega) (by omega), Int.toNat_natCast], ?_⟩
            refine ⟨us.set k (v, v), some (.fz (.int (k : Int))), some (.fz (.int (i : Int))), ties_set hu ?_, by rw [List.length_set]; exact hul, ?_⟩
            · show 0 ≤ v ∧ v ≤ v ∧ v < n
              rcases hvv with rfl | rfl <;> omega
            · rw [List.map_set]
              rfl
        · walk_at "rd"
          exact ⟨us, _, _, hu, hul, rfl⟩
      · walk_at "rd"
        exact ⟨us, _, _, hu, hul, rfl⟩
    · rintro ρ2 ⟨us, c4, c5, hu, hul, rfl⟩
      exact sw_retO rfl (hc us hu (by omega))
end Pf

namespace Pf
open PySem L2 Dl Sh
open Evl (Ex)
local macro_rules | `(tactic| walk_at "r0") => `(tactic| with_reducible first
  | refine sw_seq ?_
  | refine ew_var rfl ?_
  | refine ew_int ?_
  | refine ew_bl ?_
  | refine ew_non ?_
  | refine ew_str ?_
  | refine aw_cons ?_
  | refine aw_nil ?_
  | refine sw_par ?_
  | refine sw_next ?_
  | refine sw_if ?_
  | refine sw_ret ?_
  | refine tw_not ?_
  | refine tw_and ?_
  | refine tw_or ?_
  | refine tw_test ?_
  | refine tw_B ?_
  | refine tw_tru rfl ?_
  | refine ew_andV ?_
  | refine ew_orV ?_
  | refine ew_notV ?_
  | refine ew_if ?_
  | refine ew_chain ?_
  | refine ew_isN ?_
  | refine ew_tup ?_
  | refine ew_lst ?_
  | refine ew_isiD isN_int rfl ?_
  | refine ew_isiD isN_bool rfl ?_
  | refine ew_isiD isN_tuple rfl ?_
  | refine ew_isiD isN_list rfl ?_
  | refine ew_isiD isN_str rfl ?_
  | refine ew_isi2D isN_list isN_tuple rfl ?_
  | refine ew_isi2D isN_tuple isN_list rfl ?_
  | refine ew_cb ?_
  | refine ew_neg ?_
  | refine ew_op ?_
  | refine ⟨_, opv_int, ?_⟩
  | refine ⟨_, opv_cmp, ?_⟩
  | refine ⟨_, opv_eq, ?_⟩
  | refine ⟨_, opv_ne, ?_⟩
  | refine ⟨_, opv_eqB, ?_⟩
  | refine ⟨_, opv_eqS, ?_⟩
  | refine ⟨_, cbv_abs, ?_⟩
  | refine ⟨_, cbv_max2, ?_⟩
  | refine ⟨_, cbv_min2, ?_⟩
  | refine pw_none ?_
  | refine pw_some ?_
  | refine ⟨_, cbv_int, ?_⟩
  | refine ⟨_, rfl, ?_⟩
  | refine ⟨_, _, rfl, ?_⟩
  | refine ⟨_, _, _, rfl, ?_⟩
  | refine ⟨_, _, _, _, rfl, ?_⟩
  | refine br_t ?_
  | refine br_f ?_
  | refine ⟨dt_int, ?_⟩
  | refine ⟨dt_bl, ?_⟩
  | refine ⟨dt_str, ?_⟩
  | refine ⟨dt_non, ?_⟩
  | refine ⟨dt_tup, ?_⟩
  | refine ⟨dt_lst, ?_⟩
  | refine sw_asg ?_
  | refine sw_drop ?_)
local macro_rules | `(tactic| walk_at "r1") => `(tactic| first
  | ((with_reducible refine ew_tupL ?hK ?_); (case hK => rfl))
  | ((with_reducible refine ew_catT ?hK ?_); (case hK => rfl))
  | ((with_reducible refine ew_repT ?hK ?_); (case hK => rfl))
  | ((with_reducible refine ew_of_eb (eb_listL ?hK ?_)); (case hK => rfl))
  | ((with_reducible refine ew_of_eb (eb_cutL ?hK ?_)); (case hK => rfl))
  | walk_at "r0"
  | ((with_reducible refine ew_of_eb (eb_mapT ?hV ?hK ?_)); (case hK => rfl); (case hV => rfl))
  | ((with_reducible refine ew_of_eb (eb_mapL ?hV ?hK ?_)); (case hK => rfl); (case hV => rfl))
  | ((with_reducible refine ew_of_eb (eb_mapR ?hV ?_)); (case hV => rfl))
  | ((with_reducible refine ew_callP ?hK trivial ?_); (case hK => rfl))
  | ((with_reducible refine ew_callW ?hK trivial ?_); (case hK => rfl))
  | ((with_reducible refine ew_callH ?hK trivial ?_); (case hK => rfl))
  | ((with_reducible refine ew_callR ?hK ?hF ?_); (case hK => rfl); (case hF => assumption))
  | ((with_reducible refine len_ok ?hK ?_); (case hK => rfl))
  | ((with_reducible refine ew_notT ?hK ?_); (case hK => rfl))
  | ((with_reducible refine ew_cutT ?hK ?_); (case hK => rfl))
  | ((with_reducible refine ⟨(?hK : Dt _ _), ?_⟩); (case hK => assumption))
  | ((with_reducible refine sw_unp2 ?hK ?hn ?_); (case hK => rfl); (case hn => rfl)))
local macro_rules | `(tactic| walk_at "side") => `(tactic| first
  | exact Or.inr (by decide)
  | exact Or.inl (by decide)
  | exact ⟨by decide, by decide⟩
  | exact ⟨by decide, by decide, by decide⟩
  | decide
  | (dsimp only; decide)
  | exact mw (by assumption) (by assumption))
local macro_rules | `(tactic| walk_at "r2") => `(tactic| first
  | walk_at "r1"
  | ((with_reducible refine ⟨_, opv_intC ?hC, ?_⟩); (case hC => walk_at "side"))
  | ((with_reducible refine ⟨_, cbv_lenL ?hK, ?_⟩); (case hK => rfl))
  | ((with_reducible refine ⟨_, cbv_allM ?hK, ?_⟩); (case hK => rfl))
  | ((with_reducible refine ⟨_, cbv_anyM ?hK, ?_⟩); (case hK => rfl))
  | ((with_reducible refine ⟨_, cbv_sumM ?hK, ?_⟩); (case hK => rfl))
  | ((with_reducible refine ⟨_, cbv_lenT ?hK, ?_⟩); (case hK => rfl))
  | (with_reducible refine ⟨_, opv_ixT (by with_unfolding_all rfl) (by with_unfolding_all rfl), ?_⟩)
  | refine br_t ?_
  | refine br_f ?_)
local macro_rules | `(tactic| walk_at "rd") => `(tactic| repeat (walk_at "r2"))
local macro_rules | `(tactic| walk_at "rs") => `(tactic| repeat ((fail_if_success (with_reducible refine sw_isif ?_)); walk_at "r2"))
local macro_rules | `(tactic| walk_at "nf") => `(tactic| (try simp only [List.set_cons_zero, List.set_cons_succ, Dl.sets, Dl.asD]))
local macro_rules | `(tactic| walk_at "ru") => `(tactic| repeat ((fail_if_success (with_reducible refine sw_seq ?_)); walk_at "r2"))

abbrev c__law_web : Cn := fun K w ds Ψ Ξ => ∃ (sizes : List Int) (most : Int), ds = [.ptr w, .lst (sizes.map D.int), .int most] ∧ 0 < sizes.length ∧ sizes.length ≤ 100 ∧ (∀ z ∈ sizes, 0 ≤ z ∧ z ≤ 20) ∧ 0 ≤ most ∧ most ≤ 100 ∧ ∀ (n : Int) (ts : List (Int × Int)), 0 ≤ n → n ≤ 20 → TiesOk n ts → ts.length ≤ most.toNat → Ψ (.fz (.tup [.int n, .lst (ts.map shD)]))
theorem rng2_at {lo : Int} {n i : Nat} {x : D} (h : (rngD2 lo n)[i]? = some x) : i < n ∧ x = .int (lo + (i : Int)) := by
  have hi : i < n := by
    have := (List.getElem?_eq_some_iff.mp h).1
    rw [rngD2_len] at this
    exact this
  rw [rngD2_get hi] at h
  exact ⟨hi, (Option.some.inj h).symm⟩
theorem perm_map {α : Type} {f : α → D} {g : D → α} (hg : ∀ a, g (f a) = a) {ys : List D} {xs : List α} (h : ys.Perm (xs.map f)) : ∃ zs : List α, ys = zs.map f ∧ zs.Perm xs := by
  refine ⟨ys.map g, ?_, ?_⟩
  · rw [List.map_map]
    conv => lhs; rw [← List.map_id ys]
    apply List.map_congr_left
    intro y hy
    obtain ⟨a, _, rfl⟩ := List.mem_map.mp (h.mem_iff.mp hy)
    show f a = f (g (f a))
    rw [hg]
  · have := h.map g
    rw [List.map_map] at this
    have e : (g ∘ f) = id := funext hg
    rw [e, List.map_id] at this
    exact this
def intP : D → Int | .int i => i | _ => 0
def shP : D → Int × Int | .tup [.int a, .int b] => (a, b) | _ => (0, 0)
theorem perm_ties {n : Int} {ts us : List (Int × Int)} (h : us.Perm ts) (ht : TiesOk n ts) : TiesOk n us := fun p hp => ht p (h.mem_iff.mp hp)
theorem getD_mem_int {xs : List Int} {k : Nat} (h : k < xs.length) : xs.getD k 0 ∈ xs := by
  rw [List.getD_eq_getElem?_getD, List.getElem?_eq_getElem h]
  exact List.getElem_mem h
/-- an order of the numbers below n -/
theorem mixed_rng {n : Nat} {ys : List D} (h : ys.Perm (rngD n)) : ∃ q : List Int, ys = q.map D.int ∧ q.length = n ∧ ∀ i ∈ q, 0 ≤ i ∧ i < n := by
  have e : rngD n = ((List.range n).map fun (i : Nat) => (i : Int)).map D.int := by
    unfold rngD
    rw [List.map_map]
    rfl
  rw [e] at h
  obtain ⟨q, rfl, hq⟩ := perm_map (g := intP) (fun _ => rfl) h
  refine ⟨q, rfl, by rw [hq.length_eq, List.length_map, List.length_range], fun i hi => ?_⟩
  obtain ⟨k, hk, rfl⟩ := List.mem_map.mp (hq.mem_iff.mp hi)
  have := List.mem_range.mp hk
  omega
theorem l__law_web : ∀ K w ds Ψ Ξ, c__law_web K w ds Ψ Ξ → ds.length = 3 := fun K w ds Ψ Ξ h => by
  obtain ⟨_, _, rfl, _⟩ := h
  rfl
theorem ok__law_web {P : Program} {w : World} {K : PySem.W.Frag} {mg : Str → Option Value} {base : Heap} {A : Ad} (T : Txt K mg A) : FnOk P w K mg base CX0 3 A._law_web A.fd__law_web ["box", "sizes", "most"] (SpD K IsBox c__law_web) := by
  refine Fun.ok T.F__law_web sc__law_web (fun vs H Q E h => spd_len (l__law_web) h) (fun cdv A' outer s H vs Q E hr h => ⟨_, (pss_cons (ps_set (i := 3) sc__law_web.nd rfl (.inl rfl) (pe_ix ix_list (pv 1) (pe_call (ok__law_draw T) (hr.mono (by decide)) (by rfl) T.m__law_draw T.F__law_draw.kp (b__law_draw T) .nil pass0 (pa_cons (pv 0) (pa_cons (pe_callB call_len_seq (by rfl) T.b_len (by decide +kernel) (pa_cons (pv 1) pa_nil)) pa_nil))) (fun _ _ => rfl)))
        (pss_cons (ps_if (PW.pt (pw_and (pt_cmpR op_lt (pv 3) pe_int (nomark _)) (pw_and1 (pt_cmpR op_eq (pe_call (ok__law_draw T) (hr.mono (by decide)) (by rfl) T.m__law_draw T.F__law_draw.kp (b__law_draw T) .nil pass0 (pa_cons (pv 0) (pa_cons pe_int pa_nil))) pe_int (nomark _))))) (pss_one (ps_set (i := 3) sc__law_web.nd rfl (.inl rfl) (pe_ix ix_list (pv 1) pe_int (fun _ _ => rfl)))) pss_nil)
        (pss_cons (ps_set (i := 4) sc__law_web.nd rfl (.inl rfl) (pe_call (ok__law_draw T) (hr.mono (by decide)) (by rfl) T.m__law_draw T.F__law_draw.kp (b__law_draw T) .nil pass0 (pa_cons (pv 0) (pa_cons pe_int pa_nil))))
        (pss_cons (ps_set (i := 5) sc__law_web.nd rfl (.inl rfl) (pe_lst pa_nil))
        (pss_cons (ps_if (pt_cmpR op_lt (pv 4) pe_int (nomark _)) (pss_one (ps_setLc (i := 5) (own := [("k", 6)]) (by rfl) sc__law_web.nd rfl rfl (sw_true rfl rfl rfl (by decide +kernel)) (pi_range2 (by rfl) T.b_range (pa_cons pe_int (pa_cons (pv 3) pa_nil))) (blkOk_by (own := [("k", 6)]) (N := ["box", "sizes", "most", "size", "shape", "ties", "k", "one", "other", "named", "turned", "i", "j"]) (sc := defScope s__law_web) (by decide +kernel)) (fun _ _ _ _ _ => (pg_name (i := 6) sc__law_web.nd rfl (.inl rfl))) (fun _ _ _ _ _ => pts_nil) (fun _ _ _ _ _ => (pe_tup (pa_cons (pe_op op_sub (pe_op op_sub (pv 6) pe_int) (pe_call (ok__law_draw T) (hr.mono (by decide)) (by rfl) T.m__law_draw T.F__law_draw.kp (b__law_draw T) .nil pass0 (pa_cons (pv 0) (pa_cons (pe_callB (call_min2 rfl) (by rfl) T.b_min (by decide +kernel) (pa_cons (pv 6) (pa_cons pe_int pa_nil))) pa_nil)))) (pa_cons (pv 6) pa_nil)))))) pss_nil)
        (pss_cons (ps_if (PW.pt (pw_and (pt_cmpR op_eq (pv 4) pe_int (nomark _)) (pw_and1 (pt_cmpR op_gt (pv 3) pe_int (nomark _))))) (pss_one (ps_set (i := 5) sc__law_web.nd rfl (.inl rfl) (pe_op op_cat (pe_lc (own := [("k", 6)]) (by rfl) sc__law_web.nd (pi_range1 (by rfl) T.b_range (pa_cons (pe_op op_sub (pv 3) pe_int) pa_nil)) (blkOk_by (own := [("k", 6)]) (N := ["box", "sizes", "most", "size", "shape", "ties", "k", "one", "other", "named", "turned", "i", "j"]) (sc := defScope s__law_web) (by decide +kernel)) (fun _ _ _ _ _ => (pg_name (i := 6) sc__law_web.nd rfl (.inl rfl))) (fun _ _ _ _ _ => pts_nil) (fun _ _ _ _ _ => (pe_tup (pa_cons (pv 6) (pa_cons (pe_op op_add (pv 6) pe_int) pa_nil))))) (pe_lst (pa_cons (pe_tup (pa_cons pe_int (pa_cons (pe_op op_sub (pv 3) pe_int) pa_nil))) pa_nil))))) pss_nil)
        (pss_cons (ps_set (i := 5) sc__law_web.nd rfl (.inl rfl) (pe_slice sl_list (pv 5) po_none (po_some (pv 2))))
        (pss_cons (ps_for PassesOwn.never rfl (pi_range1 (by rfl) T.b_range (pa_cons (pe_op op_sub (pe_op op_sub (pv 2) (pe_callB call_len_seq (by rfl) T.b_len (by decide +kernel) (pa_cons (pv 5) pa_nil))) (pe_op op_mul (pe_call (ok__law_draw T) (hr.mono (by decide)) (by rfl) T.m__law_draw T.F__law_draw.kp (b__law_draw T) .nil pass0 (pa_cons (pv 0) (pa_cons pe_int pa_nil))) (pe_call (ok__law_draw T) (hr.mono (by decide)) (by rfl) T.m__law_draw T.F__law_draw.kp (b__law_draw T) .nil pass0 (pa_cons (pv 0) (pa_cons pe_int pa_nil))))) pa_nil)) (pg_name (i := 6) sc__law_web.nd rfl (.inl rfl)) (pss_cons (ps_if (pt_cmpR op_lt (pv 3) pe_int (nomark _)) (pss_one ps_break) pss_nil)
        (pss_cons (ps_set (i := 7) sc__law_web.nd rfl (.inl rfl) (pe_call (ok__law_draw T) (hr.mono (by decide)) (by rfl) T.m__law_draw T.F__law_draw.kp (b__law_draw T) .nil pass0 (pa_cons (pv 0) (pa_cons (pv 3) pa_nil))))
        (pss_cons (ps_set (i := 8) sc__law_web.nd rfl (.inl rfl) (pe_op op_mod (pe_callTy call_int1 (by rfl) T.b_int (by decide +kernel) (pa_cons (pe_op op_add (pe_op op_add (pv 7) pe_int) (pe_call (ok__law_draw T) (hr.mono (by decide)) (by rfl) T.m__law_draw T.F__law_draw.kp (b__law_draw T) .nil pass0 (pa_cons (pv 0) (pa_cons (pe_op op_sub (pv 3) pe_int) pa_nil)))) pa_nil)) (pv 3)))
        (pss_cons (ps_if (PW.pt (pw_and (pt_cmpR op_eq (pv 4) pe_int (nomark _)) (pw_and (pt_cmpR op_gt (pe_callB call_len_seq (by rfl) T.b_len (by decide +kernel) (pa_cons (pv 5) pa_nil)) pe_int (nomark _)) (pw_and1 (pt_cmpR op_eq (pe_call (ok__law_draw T) (hr.mono (by decide)) (by rfl) T.m__law_draw T.F__law_draw.kp (b__law_draw T) .nil pass0 (pa_cons (pv 0) (pa_cons pe_int pa_nil))) pe_int (nomark _)))))) (pss_one (ps_asg (pe_ix ix_list (pv 5) (pe_call (ok__law_draw T) (hr.mono (by decide)) (by rfl) T.m__law_draw T.F__law_draw.kp (b__law_draw T) .nil pass0 (pa_cons (pv 0) (pa_cons (pe_callB call_len_seq (by rfl) T.b_len (by decide +kernel) (pa_cons (pv 5) pa_nil)) pa_nil))) (fun _ _ => rfl)) (pg_tup (by rfl) (pgs_cons (pg_name (i := 7) sc__law_web.nd rfl (.inl rfl)) (pgs_cons (pg_name (i := 8) sc__law_web.nd rfl (.inl rfl)) pgs_nil))))) pss_nil)
        (pss_one (ps_expr (pe_bm PySem.F.plainAttrs_list PySem.F.slot_list_append PySem.F.type_list_append mt_append (pv 5) (pa_cons (pe_tup (pa_cons (pe_callB (call_min2 rfl) (by rfl) T.b_min (by decide +kernel) (pa_cons (pv 7) (pa_cons (pv 8) pa_nil))) (pa_cons (pe_callB (call_max2 rfl) (by rfl) T.b_max (by decide +kernel) (pa_cons (pv 7) (pa_cons (pv 8) pa_nil))) pa_nil))) pa_nil)))))))))
        (pss_cons (ps_set (i := 9) sc__law_web.nd rfl (.inr rfl) (pe_call (ok__law_mixed T) (hr.mono (by decide)) (by rfl) T.m__law_mixed T.F__law_mixed.kp (b__law_mixed T) .nil pass0 (pa_cons (pv 0) (pa_cons (pe_listRg rfl (by rfl) T.b_list (prg_1 (by rfl) T.b_range (pv 3))) pa_nil))))
        (pss_cons (ps_setLc (i := 10) (own := [("i", 11), ("j", 12)]) (by rfl) sc__law_web.nd rfl rfl (sw_true rfl rfl rfl (by decide +kernel)) (pi_list (pv 5)) (blkOk_by (own := [("i", 11), ("j", 12)]) (N := ["box", "sizes", "most", "size", "shape", "ties", "k", "one", "other", "named", "turned", "i", "j"]) (sc := defScope s__law_web) (by decide +kernel)) (fun _ _ _ _ _ => (by exact (show PG _ _ (gTup K 2 _) from (pg_tup (by rfl) (pgs_cons (pg_name (i := 11) sc__law_web.nd rfl (.inl rfl)) (pgs_cons (pg_name (i := 12) sc__law_web.nd rfl (.inl rfl)) pgs_nil)))))) (fun _ _ _ _ _ => pts_nil) (fun _ _ _ _ _ => (pe_tup (pa_cons (pe_callB (call_min2 rfl) (by rfl) T.b_min (by decide +kernel) (pa_cons (pe_ix (by exact (show IxR _ (rIxL K) from ix_list)) (pv 9) (pv 11) (fun _ _ => rfl)) (pa_cons (pe_ix (by exact (show IxR _ (rIxL K) from ix_list)) (pv 9) (pv 12) (fun _ _ => rfl)) pa_nil))) (pa_cons (pe_callB (call_max2 rfl) (by rfl) T.b_max (by decide +kernel) (pa_cons (pe_ix (by exact (show IxR _ (rIxL K) from ix_list)) (pv 9) (pv 11) (fun _ _ => rfl)) (pa_cons (pe_ix (by exact (show IxR _ (rIxL K) from ix_list)) (pv 9) (pv 12) (fun _ _ => rfl)) pa_nil))) pa_nil)))))
        (pss_one (ps_ret (pe_tup (pa_cons (pv 3) (pa_cons (pe_call (ok__law_mixed T) (hr.mono (by decide)) (by rfl) T.m__law_mixed T.F__law_mixed.kp (b__law_mixed T) .nil pass0 (pa_cons (pv 0) (pa_cons (pv 10) pa_nil))) pa_nil))))))))))))))), ?_⟩)
  refine body_ok 3 (by decide) (l__law_web) h (fun Γ ds Ψ Ξ hK hX hF hc ke => ?_)
  subst hK
  obtain ⟨sizes, most, rfl, hne, hsl, hs, m0, m1, hc⟩ := hc
  refine sw_seq (sw_asg ?_)
  walk_at "ru"
  rw [List.length_map]
  refine ⟨by omega, by omega, fun d d0 d1 => ?_⟩
  refine ⟨_, opv_ixIL rfl d0 d1, ?_⟩
  have hz := hs _ (getD_mem_int (show d.toNat < sizes.length by omega))
  generalize sizes.getD d.toNat 0 = z at hz ⊢
  refine sw_cut (fun ρ => ∃ z : Int, 0 ≤ z ∧ z ≤ 20 ∧ ρ = [some (.fz (.ptr Γ.R.w)), some (.fz (.lst (sizes.map D.int))), some (.fz (.int most)), some (.fz (.int z)), none, none, none, none, none, none, none, none, none]) ?_ ?_
  · walk_at "rd"
    refine ⟨fun h1 => ?_, fun h1 => ?_⟩
    · walk_at "rd"
      refine ⟨by decide, by decide, fun e e0 e1 => ?_⟩
      walk_at "rd"
      refine ⟨fun h2 => ?_, fun h2 => ?_⟩
      · walk_at "rd"
        refine ⟨_, opv_ixIL rfl (by decide) (by omega), ?_⟩
        have hz := hs _ (getD_mem_int (show (0 : Int).toNat < sizes.length from hne))
        exact ⟨_, hz.1, hz.2, rfl⟩
      · walk_at "rd"
        exact ⟨z, hz.1, hz.2, rfl⟩
    · walk_at "rd"
      exact ⟨z, hz.1, hz.2, rfl⟩
  · rintro ρ ⟨n, n0, n1, rfl⟩
    refine sw_seq (sw_asg ?_)
    walk_at "ru"
    refine ⟨by decide, by decide, fun shape s0 s1 => ?_⟩
    refine sw_seq (sw_asgB (eb_lst (aw_nil ⟨by decide, ?_⟩)))
    refine sw_cut (fun ρ => ∃ ts : List (Int × Int), TiesOk n ts ∧ ts.length ≤ 100 ∧ ρ = [some (.fz (.ptr Γ.R.w)), some (.fz (.lst (sizes.map D.int))), some (.fz (.int most)), some (.fz (.int n)), some (.fz (.int shape)), some (.ow (.lst (ts.map shD))), none, none, none, none, none, none, none]) ?_ ?_
    · walk_at "rd"
      refine ⟨fun h1 => ?_, fun h1 => ?_⟩
      · refine sw_asgB (eb_lcR2 (aw_cons (ew_int (aw_cons (ew_var rfl (aw_nil ⟨1, n, rfl, by omega, gw_name (by decide), fun j hj es => ?_, by rw [rngD2_len]; omega, fun i acc => ∃ ts : List (Int × Int), acc = ts.map shD ∧ ts.length = i ∧ TiesOk n ts, ⟨[], rfl, rfl, ties_nil⟩, ?_, ?_⟩))))))
        · rw [List.mem_singleton.mp hj]
          intro z
          cases z
        · rintro i x acc c hx ⟨ts, rfl, h2, h3⟩
          obtain ⟨hi, rfl⟩ := rng2_at hx
          refine ⟨_, gd_name, rfl, tw_yes ⟨rfl, fun _ => ?_, (fun z => by cases z)⟩⟩
          walk_at "rd"
          refine ⟨by omega, by omega, fun e e0 e1 => ?_⟩
          walk_at "rd"
          refine ⟨rfl, ts ++ [(1 + (i : Int) - 1 - e, 1 + (i : Int))], by rw [List.map_append]; rfl, by rw [List.length_append, h2]; rfl, ties_app h3 (ties_one ?_)⟩
          show 0 ≤ 1 + (i : Int) - 1 - e ∧ 1 + (i : Int) - 1 - e ≤ 1 + (i : Int) ∧ 1 + (i : Int) < n
          omega
        · rintro acc ⟨ts, rfl, h2, h3⟩
          rw [rngD2_len] at h2
          exact ⟨ts, h3, by omega, rfl⟩
      · walk_at "rd"
        exact ⟨[], ties_nil, by decide, rfl⟩
    · rintro ρ ⟨ts, ht, hl, rfl⟩
      refine sw_cut (fun ρ => ∃ ts : List (Int × Int), TiesOk n ts ∧ ts.length ≤ 100 ∧ ρ = [some (.fz (.ptr Γ.R.w)), some (.fz (.lst (sizes.map D.int))), some (.fz (.int most)), some (.fz (.int n)), some (.fz (.int shape)), some (.ow (.lst (ts.map shD))), none, none, none, none, none, none, none]) ?_ ?_
      · walk_at "rd"
        refine ⟨fun h1 => ?_, fun h1 => ?_⟩
        · walk_at "rd"
          refine ⟨fun h2 => ?_, fun h2 => ?_⟩
          · have h2 : 2 < n := of_decide_eq_true h2
            refine sw_asgB (eb_catE (eb_mapR rfl (aw_cons (ew_op (ew_var rfl (ew_int ⟨_, opv_int, aw_nil ⟨n - 1, rfl, by omega, (fun es z => by cases z), by rw [rngD_len]; omega, pathT, fun x hx c => ?_, _, rfl, fun c => ?_⟩⟩))))))
            · obtain ⟨k, hk, rfl⟩ := rng_mem hx
              walk_at "rd"
              exact ⟨rfl, rfl⟩
            · refine eb_lst (aw_cons (ew_tup (aw_cons (ew_int (aw_cons (ew_op (ew_var rfl (ew_int ⟨_, opv_int, aw_nil ⟨by show 2 ≤ 100000; omega, aw_nil ⟨by show 1 ≤ 100000; omega, _, rfl, ?_, ?_⟩⟩⟩))))))))
              · rw [rng_map, List.length_map, List.length_range]
                show _ + 1 ≤ 100000
                omega
              · rw [rng_map]
                refine ⟨((List.range (n - 1).toNat).map fun (k : Nat) => ((k : Int), (k : Int) + 1)) ++ [(0, n - 1)], ties_app (ties_map fun k hk => ?_) (ties_one ?_), ?_, ?_⟩
                · have hk' := List.mem_range.mp hk
                  show 0 ≤ (k : Int) ∧ (k : Int) ≤ (k : Int) + 1 ∧ (k : Int) + 1 < n
                  omega
                · show 0 ≤ (0 : Int) ∧ 0 ≤ n - 1 ∧ n - 1 < n
                  omega
                · rw [List.length_append, List.length_map, List.length_range]
                  show _ + 1 ≤ 100
                  omega
                · rw [List.map_append, List.map_map]
                  rfl
          · walk_at "rd"
            exact ⟨ts, ht, hl, rfl⟩
        · walk_at "rd"
          exact ⟨ts, ht, hl, rfl⟩
      · rintro ρ ⟨ts, ht, hl, rfl⟩
        refine sw_seq (sw_asgB (eb_cutO rfl rfl (pw_none (pw_some (ew_var rfl ⟨most, rfl, _, rfl, ?_⟩)))))
        rw [cut_head m0]
        have ht1 : TiesOk n (ts.take most.toNat) := fun q hq => ht q (List.mem_of_mem_take hq)
        have hl1 : (ts.take most.toNat).length ≤ most.toNat := by
          rw [List.length_take]
          omega
        generalize ts.take most.toNat = ts at ht1 hl1 ⊢
        refine sw_cut (fun ρ => ∃ (us : List (Int × Int)) (c6 c7 c8 : Option B), (∀ es, c6 ≠ some (.ow es)) ∧ TiesOk n us ∧ us.length ≤ most.toNat ∧ ρ = [some (.fz (.ptr Γ.R.w)), some (.fz (.lst (sizes.map D.int))), some (.fz (.int most)), some (.fz (.int n)), some (.fz (.int shape)), some (.ow (.lst (us.map shD))), c6, c7, c8, none, none, none, none]) ?_ ?_
        · refine sw_forR (aw_cons (ew_op (ew_op (ew_var rfl (ew_lenO rfl rfl ⟨_, opv_int, ?_⟩)))))
          walk_at "rd"
          refine ⟨by decide, by decide, fun e e0 e1 => ?_⟩
          walk_at "rd"
          refine ⟨by decide, by decide, fun f f0 f1 => ?_⟩
          refine ⟨_, opv_intC (.inl (by constructor <;> omega)), ?_⟩
          have hef : 0 ≤ e * f := Int.mul_nonneg e0 f0
          refine ⟨_, opv_int, aw_nil ⟨_, rfl, ?_, fun i ρ => ∃ (us : List (Int × Int)) (c6 c7 c8 : Option B), (∀ es, c6 ≠ some (.ow es)) ∧ TiesOk n us ∧ us.length = ts.length + i ∧ ρ = [some (.fz (.ptr Γ.R.w)), some (.fz (.lst (sizes.map D.int))), some (.fz (.int most)), some (.fz (.int n)), some (.fz (.int shape)), some (.ow (.lst (us.map shD))), c6, c7, c8, none, none, none, none], ⟨ts, none, none, none, (fun es z => by cases z), ht1, rfl, rfl⟩, ?_, ?_⟩⟩
          · have hf : e * f ≤ 2 := by
              have : e = 0 ∨ e = 1 := by omega
              rcases this with rfl | rfl <;> omega
            rw [List.length_map]
            constructor <;> omega
          · rintro i ρ2 hi ⟨us, c6, c7, c8, h6, hu, hul, rfl⟩
            rw [List.length_map] at hi
            have hib : us.length < most.toNat := by omega
            refine ⟨_, gd_name, ?_⟩
            refine sw_cut (fun ρ => 2 ≤ n ∧ ρ = [some (.fz (.ptr Γ.R.w)), some (.fz (.lst (sizes.map D.int))), some (.fz (.int most)), some (.fz (.int n)), some (.fz (.int shape)), some (.ow (.lst (us.map shD))), some (.fz (.int (i : Int))), c7, c8, none, none, none, none]) ?_ ?_
            · walk_at "rd"
              refine ⟨fun h1 => ?_, fun h1 => ?_⟩
              · exact sw_brk ⟨us, _, c7, c8, (fun es z => by cases z), hu, by omega, rfl⟩
              · have := of_decide_eq_false h1
                exact sw_next ⟨by omega, rfl⟩
            · rintro ρ ⟨n2, rfl⟩
              refine sw_seq (sw_asg ?_)
              walk_at "ru"
              refine ⟨by omega, by omega, fun a a0 a1 => ?_⟩
              refine sw_seq (sw_asg ?_)
              walk_at "ru"
              refine ⟨by omega, by omega, fun b b0 b1 => ?_⟩
              walk_at "ru"
              refine ⟨_, opv_intC (by omega), ?_⟩
              have o0 := Int.emod_nonneg (a + 1 + b) (show n ≠ 0 by omega)
              have o1 := Int.emod_lt_of_pos (a + 1 + b) (show 0 < n by omega)
              generalize (a + 1 + b) % n = o at o0 o1 ⊢
              refine sw_cut (fun ρ => ∃ a b : Int, 0 ≤ a ∧ a < n ∧ 0 ≤ b ∧ b < n ∧ ρ = [some (.fz (.ptr Γ.R.w)), some (.fz (.lst (sizes.map D.int))), some (.fz (.int most)), some (.fz (.int n)), some (.fz (.int shape)), some (.ow (.lst (us.map shD))), some (.fz (.int (i : Int))), some (.fz (.int a)), some (.fz (.int b)), none, none, none, none]) ?_ ?_
              · refine sw_if (tw_and ?_)
                walk_at "rd"
                refine ⟨fun h1 => ?_, fun h1 => ?_⟩
                · refine tw_and (tw_test (ew_op (ew_lenO rfl rfl (ew_int ⟨_, opv_cmp, _, rfl, fun h2 => ?_, fun h2 => ?_⟩))))
                  · rw [List.length_map] at h2
                    have hup : (0 : Int) < us.length := of_decide_eq_true h2
                    walk_at "rd"
                    refine ⟨by decide, by decide, fun g g0 g1 => ?_⟩
                    walk_at "rd"
                    refine ⟨fun h3 => ?_, fun h3 => ?_⟩
                    · refine sw_unp2 rfl rfl (ew_ixO rfl rfl (ew_callR rfl hF (aw_cons (ew_var rfl (aw_cons (ew_lenO rfl rfl (aw_nil ⟨_, rfl, by rw [List.length_map]; omega, by rw [List.length_map]; omega, fun k k0 k1 => ?_⟩)))))))
                      rw [List.length_map] at k1
                      obtain ⟨x, hx, hm⟩ := at_ex (ds := us.map shD) k0 (by rw [List.length_map]; exact k1)
                      obtain ⟨p, hp, rfl⟩ := List.mem_map.mp hm
                      obtain ⟨p0, p1, p2⟩ := hu p hp
                      exact ⟨k, _, _, rfl, rfl, hx, _, _, rfl, p.1, p.2, p0, by omega, by omega, p2, rfl⟩
                    · walk_at "rd"
                      exact ⟨a, o, a0, a1, o0, o1, rfl⟩
                  · walk_at "rd"
                    exact ⟨a, o, a0, a1, o0, o1, rfl⟩
                · walk_at "rd"
                  exact ⟨a, o, a0, a1, o0, o1, rfl⟩
              · rintro ρ ⟨a, b, a0, a1, b0, b1, rfl⟩
                refine sw_app rfl ?_
                walk_at "rd"
                refine ⟨by rw [List.length_map]; omega, us ++ [(min a b, max a b)], some (.fz (.int (i : Int))), some (.fz (.int a)), some (.fz (.int b)), (fun es z => by cases z), ties_app hu (ties_one ?_), by rw [List.length_append, hul]; rfl, by rw [List.map_append]; rfl⟩
                show 0 ≤ min a b ∧ min a b ≤ max a b ∧ max a b < n
                omega
          · rintro ρ2 ⟨us, c6, c7, c8, h6, hu, hul, rfl⟩
            rw [List.length_map] at hul
            exact ⟨us, c6, c7, c8, h6, hu, by omega, rfl⟩
        · rintro ρ ⟨us, c6, c7, c8, h6, hu, hul, rfl⟩
          refine sw_seq (sw_asg (ew_callR rfl hF (aw_cons (ew_var rfl (aw_cons (ew_of_eb (eb_listRg (ew_var rfl ⟨n, rfl, by omega, aw_nil ⟨_, rfl, by rw [rngD_len]; omega, fun ys hys => ?_⟩⟩))))))))
          obtain ⟨named, rfl, hnl, hnm⟩ := mixed_rng hys
          refine sw_freeze (i := 5) rfl ?_
          have nm_at : ∀ {a : Int}, 0 ≤ a → a < n → 0 ≤ named.getD a.toNat 0 ∧ named.getD a.toNat 0 < n := fun {a} a0 a1 => by
            have := hnm _ (getD_mem_int (show a.toNat < named.length by omega))
            omega
          refine sw_seq (sw_asg (ew_of_eb (eb_map2L rfl rfl rfl rfl (by decide) (ew_var rfl ⟨_, rfl, (fun es z => by cases z), (fun es z => by cases z), by rw [List.length_map]; omega, nameT named, fun x hx => ?_, ?_⟩))))
          · obtain ⟨p, hp, rfl⟩ := List.mem_map.mp hx
            obtain ⟨p0, p1, p2⟩ := hu p hp
            refine ⟨_, _, rfl, fun c => ?_⟩
            walk_at "rd"
            refine ⟨_, opv_ixIL rfl p0 (by omega), ?_⟩
            walk_at "rd"
            refine ⟨_, opv_ixIL rfl (by omega) (by omega), ?_⟩
            walk_at "rd"
            refine ⟨_, opv_ixIL rfl p0 (by omega), ?_⟩
            walk_at "rd"
            refine ⟨_, opv_ixIL rfl (by omega) (by omega), ?_⟩
            walk_at "rd"
            exact ⟨rfl, rfl⟩
          · have e1 : (us.map shD).map (nameT named) = (us.map fun p => (min (named.getD p.1.toNat 0) (named.getD p.2.toNat 0), max (named.getD p.1.toNat 0) (named.getD p.2.toNat 0))).map shD := by
              rw [List.map_map, List.map_map]
              rfl
            rw [e1]
            have ht2 : TiesOk n (us.map fun p => (min (named.getD p.1.toNat 0) (named.getD p.2.toNat 0), max (named.getD p.1.toNat 0) (named.getD p.2.toNat 0))) := ties_map fun p hp => by
              obtain ⟨p0, p1, p2⟩ := hu p hp
              have a := nm_at p0 (by omega)
              have b := nm_at (show 0 ≤ p.2 by omega) p2
              show 0 ≤ min (named.getD p.1.toNat 0) (named.getD p.2.toNat 0) ∧ min (named.getD p.1.toNat 0) (named.getD p.2.toNat 0) ≤ max (named.getD p.1.toNat 0) (named.getD p.2.toNat 0) ∧ max (named.getD p.1.toNat 0) (named.getD p.2.toNat 0) < n
              omega
            have hl2 : (us.map fun p => (min (named.getD p.1.toNat 0) (named.getD p.2.toNat 0), max (named.getD p.1.toNat 0) (named.getD p.2.toNat 0))).length = us.length := List.length_map _
            generalize (us.map fun p => (min (named.getD p.1.toNat 0) (named.getD p.2.toNat 0), max (named.getD p.1.toNat 0) (named.getD p.2.toNat 0))) = vs' at ht2 hl2 ⊢
            refine sw_ret (ew_tup (aw_cons (ew_var rfl (aw_cons (ew_callR rfl hF ?_)))))
            refine aw_cons (ew_var rfl (aw_cons (ew_var rfl (aw_nil ⟨_, rfl, by rw [List.length_map]; omega, fun zs hzs => ?_⟩))))
            obtain ⟨qs, rfl, hqs⟩ := perm_map (f := shD) (g := shP) (fun _ => rfl) hzs
            refine aw_nil ⟨by show 2 ≤ 100000; omega, hc n qs n0 n1 (perm_ties hqs ht2) ?_⟩
            rw [hqs.length_eq]
            omega
end Pf

namespace Pf
open PySem L2 Dl Sh
open Evl (Ex)
local macro_rules | `(tactic| walk_at "r0") => `(tactic| with_reducible first
  | refine sw_seq ?_
  | refine ew_var rfl ?_
  | refine ew_int ?_
  | refine ew_bl ?_
  | refine ew_non ?_
  | refine ew_str ?_
  | refine aw_cons ?_
  | refine aw_nil ?_
  | refine sw_par ?_
  | refine sw_next ?_
  | refine sw_if ?_
  | refine sw_ret ?_
  | refine tw_not ?_
  | refine tw_and ?_
  | refine tw_or ?_
  | refine tw_test ?_
  | refine tw_B ?_
  | refine tw_tru rfl ?_
  | refine ew_andV ?_
  | refine ew_orV ?_
  | refine ew_notV ?_
  | refine ew_if ?_
  | refine ew_chain ?_
  | refine ew_isN ?_
  | refine ew_tup ?_
  | refine ew_lst ?_
  | refine ew_isiD isN_int rfl ?_
  | refine ew_isiD isN_bool rfl ?_
  | refine ew_isiD isN_tuple rfl ?_
  | refine ew_isiD isN_list rfl ?_
  | refine ew_isiD isN_str rfl ?_
  | refine ew_isi2D isN_list isN_tuple rfl ?_
  | refine ew_isi2D isN_tuple isN_list rfl ?_
  | refine ew_cb ?_
  | refine ew_neg ?_
  | refine ew_op ?_
  | refine ⟨_, opv_int, ?_⟩
  | refine ⟨_, opv_cmp, ?_⟩
  | refine ⟨_, opv_eq, ?_⟩
  | refine ⟨_, opv_ne, ?_⟩
  | refine ⟨_, opv_eqB, ?_⟩
  | refine ⟨_, opv_eqS, ?_⟩
  | refine ⟨_, cbv_abs, ?_⟩
  | refine ⟨_, cbv_max2, ?_⟩
  | refine ⟨_, cbv_min2, ?_⟩
  | refine pw_none ?_
  | refine pw_some ?_
  | refine ⟨_, cbv_int, ?_⟩
  | refine ⟨_, rfl, ?_⟩
  | refine ⟨_, _, rfl, ?_⟩
  | refine ⟨_, _, _, rfl, ?_⟩
  | refine ⟨_, _, _, _, rfl, ?_⟩
  | refine br_t ?_
  | refine br_f ?_
  | refine ⟨dt_int, ?_⟩
  | refine ⟨dt_bl, ?_⟩
  | refine ⟨dt_str, ?_⟩
  | refine ⟨dt_non, ?_⟩
  | refine ⟨dt_tup, ?_⟩
  | refine ⟨dt_lst, ?_⟩
  | refine sw_asg ?_
  | refine sw_drop ?_)
local macro_rules | `(tactic| walk_at "r1") => `(tactic| first
  | ((with_reducible refine ew_tupL ?hK ?_); (case hK => rfl))
  | ((with_reducible refine ew_catT ?hK ?_); (case hK => rfl))
  | ((with_reducible refine ew_repT ?hK ?_); (case hK => rfl))
  | ((with_reducible refine ew_of_eb (eb_listL ?hK ?_)); (case hK => rfl))
  | ((with_reducible refine ew_of_eb (eb_cutL ?hK ?_)); (case hK => rfl))
  | walk_at "r0"
  | ((with_reducible refine ew_of_eb (eb_mapT ?hV ?hK ?_)); (case hK => rfl); (case hV => rfl))
  | ((with_reducible refine ew_of_eb (eb_mapL ?hV ?hK ?_)); (case hK => rfl); (case hV => rfl))
  | ((with_reducible refine ew_of_eb (eb_mapR ?hV ?_)); (case hV => rfl))
  | ((with_reducible refine ew_callP ?hK trivial ?_); (case hK => rfl))
  | ((with_reducible refine ew_callW ?hK trivial ?_); (case hK => rfl))
  | ((with_reducible refine ew_callH ?hK trivial ?_); (case hK => rfl))
  | ((with_reducible refine ew_callR ?hK ?hF ?_); (case hK => rfl); (case hF => assumption))
  | ((with_reducible refine len_ok ?hK ?_); (case hK => rfl))
  | ((with_reducible refine ew_notT ?hK ?_); (case hK => rfl))
  | ((with_reducible refine ew_cutT ?hK ?_); (case hK => rfl))
  | ((with_reducible refine ⟨(?hK : Dt _ _), ?_⟩); (case hK => assumption))
  | ((with_reducible refine sw_unp2 ?hK ?hn ?_); (case hK => rfl); (case hn => rfl)))
local macro_rules | `(tactic| walk_at "side") => `(tactic| first
  | exact Or.inr (by decide)
  | exact Or.inl (by decide)
  | exact ⟨by decide, by decide⟩
  | exact ⟨by decide, by decide, by decide⟩
  | decide
  | (dsimp only; decide)
  | exact mw (by assumption) (by assumption))
local macro_rules | `(tactic| walk_at "r2") => `(tactic| first
  | walk_at "r1"
  | ((with_reducible refine ⟨_, opv_intC ?hC, ?_⟩); (case hC => walk_at "side"))
  | ((with_reducible refine ⟨_, cbv_lenL ?hK, ?_⟩); (case hK => rfl))
  | ((with_reducible refine ⟨_, cbv_allM ?hK, ?_⟩); (case hK => rfl))
  | ((with_reducible refine ⟨_, cbv_anyM ?hK, ?_⟩); (case hK => rfl))
  | ((with_reducible refine ⟨_, cbv_sumM ?hK, ?_⟩); (case hK => rfl))
  | ((with_reducible refine ⟨_, cbv_lenT ?hK, ?_⟩); (case hK => rfl))
  | (with_reducible refine ⟨_, opv_ixT (by with_unfolding_all rfl) (by with_unfolding_all rfl), ?_⟩)
  | refine br_t ?_
  | refine br_f ?_)
local macro_rules | `(tactic| walk_at "rd") => `(tactic| repeat (walk_at "r2"))
local macro_rules | `(tactic| walk_at "rs") => `(tactic| repeat ((fail_if_success (with_reducible refine sw_isif ?_)); walk_at "r2"))
local macro_rules | `(tactic| walk_at "nf") => `(tactic| (try simp only [List.set_cons_zero, List.set_cons_succ, Dl.sets, Dl.asD]))
local macro_rules | `(tactic| walk_at "ru") => `(tactic| repeat ((fail_if_success (with_reducible refine sw_seq ?_)); walk_at "r2"))

abbrev c__law_drawn : Cn := fun K w ds Ψ Ξ => ∃ (n : Int) (ts : List (Int × Int)), ds = [.ptr w, .int n, .lst (ts.map shD)] ∧ 0 ≤ n ∧ n ≤ 20 ∧ TiesOk n ts ∧ ts.length ≤ 100 ∧ ∀ ws : List Int, ws.length = ts.length → (∀ u ∈ ws, u = 1 ∨ u = -1) → Ψ (.ow (.lst (ws.map D.int)))
theorem ways_app {ws : List Int} {u : Int} (h : ∀ u ∈ ws, u = 1 ∨ u = -1) (hu : u = 1 ∨ u = -1) : ∀ v ∈ ws ++ [u], v = 1 ∨ v = -1 := fun v hv => by
  rcases List.mem_append.mp hv with hv | hv
  · exact h v hv
  · rw [List.mem_singleton.mp hv]
    exact hu
theorem l__law_drawn : ∀ K w ds Ψ Ξ, c__law_drawn K w ds Ψ Ξ → ds.length = 3 := fun K w ds Ψ Ξ h => by
  obtain ⟨_, _, rfl, _⟩ := h
  rfl
theorem ok__law_drawn {P : Program} {w : World} {K : PySem.W.Frag} {mg : Str → Option Value} {base : Heap} {A : Ad} (T : Txt K mg A) : FnOk P w K mg base CX0 3 A._law_drawn A.fd__law_drawn ["box", "size", "ties"] (SpD K IsBox c__law_drawn) := by
  refine Fun.ok T.F__law_drawn sc__law_drawn (fun vs H Q E h => spd_len (l__law_drawn) h) (fun cdv A' outer s H vs Q E hr h => ⟨_, (pss_cons (ps_set (i := 3) sc__law_drawn.nd rfl (.inl rfl) (pe_call (ok__law_draw T) (hr.mono (by decide)) (by rfl) T.m__law_draw T.F__law_draw.kp (b__law_draw T) .nil pass0 (pa_cons (pv 0) (pa_cons pe_int pa_nil))))
        (pss_cons (ps_setLc (i := 4) (own := [("k", 5)]) (by rfl) sc__law_drawn.nd rfl rfl (sw_true rfl rfl rfl (by decide +kernel)) (pi_list (pv 2)) (blkOk_by (own := [("k", 5)]) (N := ["box", "size", "ties", "way", "row", "k", "rank", "at"]) (sc := defScope s__law_drawn) (by decide +kernel)) (fun _ _ _ _ _ => (pg_name (i := 5) sc__law_drawn.nd rfl (.inl rfl))) (fun _ _ _ _ _ => pts_nil) (fun _ _ _ _ _ => (pe_op op_sub pe_int (pe_op op_mul pe_int (pe_call (ok__law_draw T) (hr.mono (by decide)) (by rfl) T.m__law_draw T.F__law_draw.kp (b__law_draw T) .nil pass0 (pa_cons (pv 0) (pa_cons pe_int pa_nil)))))))
        (pss_cons (ps_if (pt_cmpR op_gt (pv 3) pe_int (nomark _)) (pss_cons (ps_set (i := 6) sc__law_drawn.nd rfl (.inr rfl) (pe_call (ok__law_mixed T) (hr.mono (by decide)) (by rfl) T.m__law_mixed T.F__law_mixed.kp (b__law_mixed T) .nil pass0 (pa_cons (pv 0) (pa_cons (pe_listRg rfl (by rfl) T.b_list (prg_1 (by rfl) T.b_range (pv 1))) pa_nil))))
        (pss_one (ps_setLc (i := 4) (own := [("k", 5)]) (by rfl) sc__law_drawn.nd rfl rfl (sw_true rfl rfl rfl (by decide +kernel)) (pi_range1 (by rfl) T.b_range (pa_cons (pe_callB call_len_seq (by rfl) T.b_len (by decide +kernel) (pa_cons (pv 2) pa_nil)) pa_nil)) (blkOk_by (own := [("k", 5)]) (N := ["box", "size", "ties", "way", "row", "k", "rank", "at"]) (sc := defScope s__law_drawn) (by decide +kernel)) (fun _ _ _ _ _ => (pg_name (i := 5) sc__law_drawn.nd rfl (.inl rfl))) (fun _ _ _ _ _ => pts_nil) (fun _ _ _ _ _ => (pe_ifExp (pt_cmpR op_lt (pe_ix (by exact (show IxR _ (rIxL K) from ix_list)) (pv 6) (pe_ix (by exact (show IxR _ (rIxT K) from ix_tup)) (pe_ix (by exact (show IxR _ (rIxL K) from ix_list)) (pv 2) (pv 5) (fun _ _ => rfl)) pe_int (fun _ _ => rfl)) (fun _ _ => rfl)) (pe_ix (by exact (show IxR _ (rIxL K) from ix_list)) (pv 6) (pe_ix (by exact (show IxR _ (rIxT K) from ix_tup)) (pe_ix (by exact (show IxR _ (rIxL K) from ix_list)) (pv 2) (pv 5) (fun _ _ => rfl)) pe_int (fun _ _ => rfl)) (fun _ _ => rfl)) (nomark _)) pe_int (pe_un un_neg pe_int)))))) pss_nil)
        (pss_cons (ps_if (PW.pt (pw_and (pt_cmpR op_eq (pv 3) pe_int (nomark _)) (pw_and1 (pt_cmpR op_gt (pe_callB call_len_seq (by rfl) T.b_len (by decide +kernel) (pa_cons (pv 2) pa_nil)) pe_int (nomark _))))) (pss_cons (ps_set (i := 7) sc__law_drawn.nd rfl (.inl rfl) (pe_call (ok__law_draw T) (hr.mono (by decide)) (by rfl) T.m__law_draw T.F__law_draw.kp (b__law_draw T) .nil pass0 (pa_cons (pv 0) (pa_cons (pe_callB call_len_seq (by rfl) T.b_len (by decide +kernel) (pa_cons (pv 2) pa_nil)) pa_nil))))
        (pss_one (ps_asg (pe_op op_sub pe_int (pe_ix ix_list (pv 4) (pv 7) (fun _ _ => rfl))) (pg_sub (pv 4) (pv 7) set_list)))) pss_nil)
        (pss_one (ps_ret (pv 4))))))), ?_⟩)
  refine body_ok 3 (by decide) (l__law_drawn) h (fun Γ ds Ψ Ξ hK hX hF hc ke => ?_)
  subst hK
  obtain ⟨n, ts, rfl, n0, n1, ht, hl, hc⟩ := hc
  refine sw_seq (sw_asg ?_)
  walk_at "ru"
  refine ⟨by decide, by decide, fun way w0 w1 => ?_⟩
  refine sw_seq (sw_asgB (eb_lcL rfl (ew_var rfl ⟨_, rfl, gw_name (by decide), fun j hj es => ?_, by rw [List.length_map]; omega, fun i acc => ∃ ws : List Int, acc = ws.map D.int ∧ ws.length = i ∧ ∀ u ∈ ws, u = 1 ∨ u = -1, ⟨[], rfl, rfl, fun x h => absurd h (by simp)⟩, ?_, ?_⟩)))
  · rw [List.mem_singleton.mp hj]
    intro z
    cases z
  · rintro i x acc c hi ⟨ws, rfl, h1, h2⟩
    refine ⟨_, gd_name, rfl, tw_yes ⟨rfl, fun _ => ?_, (fun z => by cases z)⟩⟩
    walk_at "rd"
    refine ⟨by decide, by decide, fun d d0 d1 => ?_⟩
    refine ⟨_, opv_intC (.inl (by decide)), ?_⟩
    walk_at "rd"
    exact ⟨rfl, ws ++ [1 - 2 * d], by rw [List.map_append]; rfl, by rw [List.length_append, h1]; rfl, ways_app h2 (by omega)⟩
  · rintro acc ⟨ws, rfl, h1, h2⟩
    rw [List.length_map] at h1
    refine sw_cut (fun ρ => ∃ (ws : List Int) (c6 : Option B), ws.length = ts.length ∧ (∀ u ∈ ws, u = 1 ∨ u = -1) ∧ ρ = [some (.fz (.ptr Γ.R.w)), some (.fz (.int n)), some (.fz (.lst (ts.map shD))), some (.fz (.int way)), some (.ow (.lst (ws.map D.int))), none, c6, none]) ?_ ?_
    · walk_at "rd"
      refine ⟨fun h3 => ?_, fun h3 => ?_⟩
      · refine sw_seq (sw_asg (ew_callR rfl hF (aw_cons (ew_var rfl (aw_cons (ew_of_eb (eb_listRg (ew_var rfl ⟨n, rfl, by omega, aw_nil ⟨_, rfl, by rw [rngD_len]; omega, fun ys hys => ?_⟩⟩))))))))
        obtain ⟨named, rfl, hnl, hnm⟩ := mixed_rng hys
        refine sw_asgB (eb_lcR (aw_cons (ew_cb (aw_cons (ew_var rfl (aw_nil ⟨_, cbv_lenL rfl, aw_nil ⟨_, rfl, by omega, gw_name (by decide), fun j hj es => ?_, by rw [rngD_len, List.length_map]; omega, fun i acc => ∃ ws : List Int, acc = ws.map D.int ∧ ws.length = i ∧ ∀ u ∈ ws, u = 1 ∨ u = -1, ⟨[], rfl, rfl, fun x h => absurd h (by simp)⟩, ?_, ?_⟩⟩))))))
        · rw [List.mem_singleton.mp hj]
          intro z
          cases z
        · rintro i x acc c hi ⟨ws, rfl, h1, h2⟩
          rw [List.length_map, Int.toNat_natCast] at hi
          have hi' : i < ts.length := by
            have := (List.getElem?_eq_some_iff.mp hi).1
            rw [rngD_len] at this
            exact this
          rw [rngD_get hi'] at hi
          have hx := Option.some.inj hi
          subst hx
          obtain ⟨p, hp⟩ : ∃ p, ts[i]? = some p := ⟨_, List.getElem?_eq_getElem hi'⟩
          obtain ⟨p0, p1, p2⟩ := ht p (List.mem_of_getElem? hp)
          have hat : atI (ts.map shD) (i : Int) = some (shD p) := at_nat (by rw [List.getElem?_map, hp]; rfl)
          refine ⟨_, gd_name, rfl, tw_yes ⟨rfl, fun _ => ?_, (fun z => by cases z)⟩⟩
          walk_at "rd"
          refine ⟨_, opv_ixL rfl hat, ?_⟩
          walk_at "rd"
          refine ⟨_, opv_ixIL rfl p0 (by omega), ?_⟩
          walk_at "rd"
          refine ⟨_, opv_ixL rfl hat, ?_⟩
          walk_at "rd"
          refine ⟨_, opv_ixIL rfl (by omega) (by omega), ?_⟩
          walk_at "rd"
          refine ⟨fun h4 => ?_, fun h4 => ?_⟩
          · walk_at "rd"
            exact ⟨rfl, ws ++ [1], by rw [List.map_append]; rfl, by rw [List.length_append, h1]; rfl, ways_app h2 (.inl rfl)⟩
          · walk_at "rd"
            exact ⟨rfl, ws ++ [-1], by rw [List.map_append]; rfl, by rw [List.length_append, h1]; rfl, ways_app h2 (.inr rfl)⟩
        · rintro acc ⟨ws, rfl, h1, h2⟩
          rw [rngD_len, List.length_map, Int.toNat_natCast] at h1
          exact ⟨ws, _, h1, h2, rfl⟩
      · walk_at "rd"
        exact ⟨ws, _, h1, h2, rfl⟩
    · rintro ρ ⟨ws, c6, h1, h2, rfl⟩
      refine sw_cut (fun ρ => ∃ (ws : List Int) (c6 c7 : Option B), ws.length = ts.length ∧ (∀ u ∈ ws, u = 1 ∨ u = -1) ∧ ρ = [some (.fz (.ptr Γ.R.w)), some (.fz (.int n)), some (.fz (.lst (ts.map shD))), some (.fz (.int way)), some (.ow (.lst (ws.map D.int))), none, c6, c7]) ?_ ?_
      · walk_at "rd"
        refine ⟨fun h3 => ?_, fun h3 => ?_⟩
        · walk_at "rd"
          rw [List.length_map]
          refine ⟨fun h4 => ?_, fun h4 => ?_⟩
          · have h4 : (0 : Int) < ts.length := of_decide_eq_true h4
            walk_at "rd"
            rw [List.length_map]
            refine ⟨by omega, by omega, fun k k0 k1 => ?_⟩
            refine sw_setI rfl (ew_op (ew_int (ew_ixIO rfl rfl (ew_var rfl ⟨k, rfl, rfl, k0, by omega, _, opv_int, _, rfl, rfl, ew_var rfl ⟨k, rfl, rfl, k0, by omega, ?_⟩⟩))))
            refine ⟨ws.set k.toNat (0 - ws.getD k.toNat 0), c6, _, by rw [List.length_set]; exact h1, fun u hu => ?_, rfl⟩
            rcases List.mem_or_eq_of_mem_set hu with hu | rfl
            · exact h2 u hu
            · have := h2 _ (getD_mem_int (show k.toNat < ws.length by omega))
              omega
          · walk_at "rd"
            exact ⟨ws, _, _, h1, h2, rfl⟩
        · walk_at "rd"
          exact ⟨ws, _, _, h1, h2, rfl⟩
      · rintro ρ ⟨ws, c6, c7, h1, h2, rfl⟩
        exact sw_retO rfl (hc ws h1 h2)
def mI (m : Nat) : Int := (m : Int)
def msI (R : List Nat) : List Int := R.map mI
theorem msI_len {R : List Nat} : (msI R).length = R.length := by
  unfold msI
  rw [List.length_map]
theorem msI_at {R : List Nat} {k : Nat} (h : k < R.length) : (msI R).getD k 0 = ((R.getD k 0 : Nat) : Int) := by
  unfold msI
  rw [List.getD_eq_getElem?_getD, List.getElem?_map, List.getElem?_eq_getElem h, List.getD_eq_getElem?_getD, List.getElem?_eq_getElem h]
  rfl
theorem relax_len {E : List (Nat × Nat)} {R : List Nat} : (E.foldl Rc.relaxS R).length = R.length := Rc.relaxL_len
abbrev c__law_on_rings : Cn := fun K w ds Ψ Ξ => ∃ (n : Nat) (E : List (Nat × Nat)), ds = [.int n, .lst (E.map prD)] ∧ n ≤ 1000 ∧ E.length ≤ 1000 ∧ PairsOk n E ∧ Ψ (.ow (.lst (E.map fun p => .bl (Rc.bit (Rc.roundsL E n (Rc.ones n)) p.2 p.1))))
theorem l__law_on_rings : ∀ K w ds Ψ Ξ, c__law_on_rings K w ds Ψ Ξ → ds.length = 2 := fun K w ds Ψ Ξ h => by
  obtain ⟨_, _, rfl, _⟩ := h
  rfl
theorem ok__law_on_rings {P : Program} {w : World} {K : PySem.W.Frag} {mg : Str → Option Value} {base : Heap} {A : Ad} (T : Txt K mg A) : FnOk P w K mg base CX0 1 A._law_on_rings A.fd__law_on_rings ["size", "arrows"] (SpD K AnyR c__law_on_rings) := by
  refine Fun.ok T.F__law_on_rings sc__law_on_rings (fun vs H Q E h => spd_len (l__law_on_rings) h) (fun cdv A' outer s H vs Q E hr h => ⟨_, (pss_cons (ps_set (i := 2) sc__law_on_rings.nd rfl (.inr rfl) (pe_lc (own := [("k", 3)]) (by rfl) sc__law_on_rings.nd (pi_range1 (by rfl) T.b_range (pa_cons (pv 0) pa_nil)) (blkOk_by (own := [("k", 3)]) (N := ["size", "arrows", "reach", "k", "step", "a", "b"]) (sc := defScope s__law_on_rings) (by decide +kernel)) (fun _ _ _ _ _ => (pg_name (i := 3) sc__law_on_rings.nd rfl (.inl rfl))) (fun _ _ _ _ _ => pts_nil) (fun _ _ _ _ _ => (pe_op op_shl pe_int (pv 3)))))
        (pss_cons (ps_for PassesOwn.never rfl (pi_range1 (by rfl) T.b_range (pa_cons (pv 0) pa_nil)) (pg_name (i := 4) sc__law_on_rings.nd rfl (.inl rfl)) (pss_one (ps_for PassesOwn.never rfl (pi_list (pv 1)) (pg_tup (by rfl) (pgs_cons (pg_name (i := 5) sc__law_on_rings.nd rfl (.inl rfl)) (pgs_cons (pg_name (i := 6) sc__law_on_rings.nd rfl (.inl rfl)) pgs_nil))) (pss_one (ps_asg (pe_op op_or (pe_ix ix_list (pv 2) (pv 5) (fun _ _ => rfl)) (pe_ix ix_list (pv 2) (pv 6) (fun _ _ => rfl))) (pg_sub (pv 2) (pv 5) set_list))))))
        (pss_one (ps_ret (pe_lc (own := [("a", 5), ("b", 6)]) (by rfl) sc__law_on_rings.nd (pi_list (pv 1)) (blkOk_by (own := [("a", 5), ("b", 6)]) (N := ["size", "arrows", "reach", "k", "step", "a", "b"]) (sc := defScope s__law_on_rings) (by decide +kernel)) (fun _ _ _ _ _ => (by exact (show PG _ _ (gTup K 2 _) from (pg_tup (by rfl) (pgs_cons (pg_name (i := 5) sc__law_on_rings.nd rfl (.inl rfl)) (pgs_cons (pg_name (i := 6) sc__law_on_rings.nd rfl (.inl rfl)) pgs_nil)))))) (fun _ _ _ _ _ => pts_nil) (fun _ _ _ _ _ => (pe_cmpR op_eq (pe_op op_and (pe_op op_shr (pe_ix (by exact (show IxR _ (rIxL K) from ix_list)) (pv 2) (pv 6) (fun _ _ => rfl)) (pv 5)) pe_int) pe_int (nomark _)))))))), ?_⟩)
  refine body_ok 2 (by decide) (l__law_on_rings) h (fun Γ ds Ψ Ξ hK hX hF hc ke => ?_)
  subst hK
  obtain ⟨n, E, rfl, hn, hl, hE, hc⟩ := hc
  refine sw_seq (sw_asgB (eb_mapR rfl (aw_cons (ew_var rfl (aw_nil ⟨(n : Int), rfl, by omega, (fun es z => by cases z), by rw [rngD_len]; omega, onesF, fun x hx c => ?_, ?_⟩)))))
  · obtain ⟨k, hk, rfl⟩ := rng_mem hx
    walk_at "rd"
    refine ⟨_, opv_intC ⟨by omega, by omega, by decide⟩, rfl, ?_⟩
    rw [one_shl]
    rfl
  · have e : (rngD (n : Int).toNat).map onesF = (msI (Rc.ones n)).map D.int := by
      rw [rng_map, Int.toNat_natCast]
      unfold Rc.ones msI
      rw [List.map_map, List.map_map]
      rfl
    rw [e]
    refine sw_seq (sw_forR (aw_cons (ew_var rfl (aw_nil ⟨(n : Int), rfl, by constructor <;> omega, fun i ρ => ∃ c4 c5 c6, (∀ es, c5 ≠ some (.ow es)) ∧ (∀ es, c6 ≠ some (.ow es)) ∧ ρ = [some (.fz (.int n)), some (.fz (.lst (E.map prD))), some (.ow (.lst ((msI (Rc.roundsL E i (Rc.ones n))).map D.int))), none, c4, c5, c6], ⟨_, _, _, (fun es z => by cases z), (fun es z => by cases z), rfl⟩, ?_, ?_⟩))))
    · rintro i ρ2 hi ⟨c4, c5, c6, h5, h6, rfl⟩
      refine ⟨_, gd_name, ?_⟩
      refine sw_forL rfl (ew_var rfl ⟨_, rfl, fun j ρ => ∃ c5 c6, (∀ es, c5 ≠ some (.ow es)) ∧ (∀ es, c6 ≠ some (.ow es)) ∧ ρ = [some (.fz (.int n)), some (.fz (.lst (E.map prD))), some (.ow (.lst ((msI ((E.take j).foldl Rc.relaxS (Rc.roundsL E i (Rc.ones n)))).map D.int))), none, some (.fz (.int (i : Int))), c5, c6], ⟨c5, c6, h5, h6, rfl⟩, ?_, ?_⟩)
      · rintro j x ρ3 hx ⟨c5, c6, h5, h6, rfl⟩
        obtain ⟨p, hp, rfl⟩ := item_map hx
        obtain ⟨p1, p2⟩ := hE p (List.mem_of_getElem? hp)
        have hlen : ((E.take j).foldl Rc.relaxS (Rc.roundsL E i (Rc.ones n))).length = n := by rw [relax_len, Rc.roundsL_len, Rc.ones_len]
        obtain ⟨R, hR⟩ : ∃ R, R = (E.take j).foldl Rc.relaxS (Rc.roundsL E i (Rc.ones n)) := ⟨_, rfl⟩
        have e0 : (E.take (j + 1)).foldl Rc.relaxS (Rc.roundsL E i (Rc.ones n)) = Rc.relaxS R p := by
          rw [get_take hp, List.foldl_append, hR]
          rfl
        rw [← hR] at hlen ⊢
        refine ⟨_, gd_pair rfl rfl gd_name gd_name, ?_⟩
        refine sw_setI rfl (ew_op (ew_ixIO rfl rfl (ew_var rfl ⟨(p.1 : Int), rfl, rfl, by omega, by rw [msI_len]; omega, ew_ixIO rfl rfl (ew_var rfl ⟨(p.2 : Int), rfl, rfl, by omega, by rw [msI_len]; omega, _, opv_int, _, rfl, rfl, ew_var rfl ⟨(p.1 : Int), rfl, rfl, by omega, by rw [msI_len]; omega, ?_⟩⟩)⟩)))
        refine ⟨some (.fz (.int p.1)), some (.fz (.int p.2)), (fun es z => by cases z), (fun es z => by cases z), ?_⟩
        rw [e0, Int.toNat_natCast, Int.toNat_natCast, msI_at (by omega), msI_at (by omega), bor_of]
        have e2 : (msI R).set p.1 ((R.getD p.1 0 ||| R.getD p.2 0 : Nat) : Int) = msI (Rc.relaxS R p) := by
          unfold msI Rc.relaxS
          rw [List.map_set]
          rfl
        rw [e2]
        rfl
      · rintro ρ3 ⟨c5, c6, h5, h6, rfl⟩
        have e2 : E.take (E.map prD).length = E := by rw [List.length_map, List.take_length]
        rw [e2]
        exact ⟨_, c5, c6, h5, h6, rfl⟩
    · rintro ρ2 ⟨c4, c5, c6, h5, h6, rfl⟩
      rw [Int.toNat_natCast]
      have hlen : (Rc.roundsL E n (Rc.ones n)).length = n := by rw [Rc.roundsL_len, Rc.ones_len]
      generalize hR : Rc.roundsL E n (Rc.ones n) = R at hlen hc ⊢
      refine sw_freeze (i := 2) rfl ?_
      refine sw_retB (eb_map2L rfl rfl rfl rfl (by decide) (ew_var rfl ⟨_, rfl, fun es z => h5 es (Option.some.inj z), fun es z => h6 es (Option.some.inj z), by rw [List.length_map]; omega, ringF R, fun x hx => ?_, ?_⟩))
      · obtain ⟨p, hp, rfl⟩ := List.mem_map.mp hx
        obtain ⟨p1, p2⟩ := hE p hp
        refine ⟨_, _, rfl, fun c => ?_⟩
        walk_at "rd"
        refine ⟨_, opv_ixIL rfl (by omega) (by rw [msI_len]; omega), ?_⟩
        walk_at "rd"
        refine ⟨_, opv_intC (Int.natCast_nonneg p.1), ?_⟩
        walk_at "rd"
        rw [Int.toNat_natCast, Int.toNat_natCast, msI_at (by omega), bit_of]
        refine ⟨rfl, ?_⟩
        show _ = D.bl (Rc.bit R p.2 p.1)
        have e : decide ((if (R.getD p.2 0).testBit p.1 = true then (1 : Int) else 0) = 1) = Rc.bit R p.2 p.1 := by
          show _ = (R.getD p.2 0).testBit p.1
          cases (R.getD p.2 0).testBit p.1 <;> rfl
        rw [e]
      · have e : (E.map prD).map (ringF R) = E.map fun p => D.bl (Rc.bit R p.2 p.1) := by
          rw [List.map_map]
          rfl
        rw [e]
        exact hc
end Pf

namespace Pf
open PySem L2 Dl Sh
open Evl (Ex)
local macro_rules | `(tactic| walk_at "r0") => `(tactic| with_reducible first
  | refine sw_seq ?_
  | refine ew_var rfl ?_
  | refine ew_int ?_
  | refine ew_bl ?_
  | refine ew_non ?_
  | refine ew_str ?_
  | refine aw_cons ?_
  | refine aw_nil ?_
  | refine sw_par ?_
  | refine sw_next ?_
  | refine sw_if ?_
  | refine sw_ret ?_
  | refine tw_not ?_
  | refine tw_and ?_
  | refine tw_or ?_
  | refine tw_test ?_
  | refine tw_B ?_
  | refine tw_tru rfl ?_
  | refine ew_andV ?_
  | refine ew_orV ?_
  | refine ew_notV ?_
  | refine ew_if ?_
  | refine ew_chain ?_
  | refine ew_isN ?_
  | refine ew_tup ?_
  | refine ew_lst ?_
  | refine ew_isiD isN_int rfl ?_
  | refine ew_isiD isN_bool rfl ?_
  | refine ew_isiD isN_tuple rfl ?_
  | refine ew_isiD isN_list rfl ?_
  | refine ew_isiD isN_str rfl ?_
  | refine ew_isi2D isN_list isN_tuple rfl ?_
  | refine ew_isi2D isN_tuple isN_list rfl ?_
  | refine ew_cb ?_
  | refine ew_neg ?_
  | refine ew_op ?_
  | refine ⟨_, opv_int, ?_⟩
  | refine ⟨_, opv_cmp, ?_⟩
  | refine ⟨_, opv_eq, ?_⟩
  | refine ⟨_, opv_ne, ?_⟩
  | refine ⟨_, opv_eqB, ?_⟩
  | refine ⟨_, opv_eqS, ?_⟩
  | refine ⟨_, cbv_abs, ?_⟩
  | refine ⟨_, cbv_max2, ?_⟩
  | refine ⟨_, cbv_min2, ?_⟩
  | refine pw_none ?_
  | refine pw_some ?_
  | refine ⟨_, cbv_int, ?_⟩
  | refine ⟨_, rfl, ?_⟩
  | refine ⟨_, _, rfl, ?_⟩
  | refine ⟨_, _, _, rfl, ?_⟩
  | refine ⟨_, _, _, _, rfl, ?_⟩
  | refine br_t ?_
  | refine br_f ?_
  | refine ⟨dt_int, ?_⟩
  | refine ⟨dt_bl, ?_⟩
  | refine ⟨dt_str, ?_⟩
  | refine ⟨dt_non, ?_⟩
  | refine ⟨dt_tup, ?_⟩
  | refine ⟨dt_lst, ?_⟩
  | refine sw_asg ?_
  | refine sw_drop ?_)
local macro_rules | `(tactic| walk_at "r1") => `(tactic| first
  | ((with_reducible refine ew_tupL ?hK ?_); (case hK => rfl))
  | ((with_reducible refine ew_catT ?hK ?_); (case hK => rfl))
  | ((with_reducible refine ew_repT ?hK ?_); (case hK => rfl))
  | ((with_reducible refine ew_of_eb (eb_listL ?hK ?_)); (case hK => rfl))
  | ((with_reducible refine ew_of_eb (eb_cutL ?hK ?_)); (case hK => rfl))
  | walk_at "r0"
  | ((with_reducible refine ew_of_eb (eb_mapT ?hV ?hK ?_)); (case hK => rfl); (case hV => rfl))
  | ((with_reducible refine ew_of_eb (eb_mapL ?hV ?hK ?_)); (case hK => rfl); (case hV => rfl))
  | ((with_reducible refine ew_of_eb (eb_mapR ?hV ?_)); (case hV => rfl))
  | ((with_reducible refine ew_callP ?hK trivial ?_); (case hK => rfl))
  | ((with_reducible refine ew_callW ?hK trivial ?_); (case hK => rfl))
  | ((with_reducible refine ew_callH ?hK trivial ?_); (case hK => rfl))
  | ((with_reducible refine ew_callR ?hK ?hF ?_); (case hK => rfl); (case hF => assumption))
  | ((with_reducible refine len_ok ?hK ?_); (case hK => rfl))
  | ((with_reducible refine ew_notT ?hK ?_); (case hK => rfl))
  | ((with_reducible refine ew_cutT ?hK ?_); (case hK => rfl))
  | ((with_reducible refine ⟨(?hK : Dt _ _), ?_⟩); (case hK => assumption))
  | ((with_reducible refine sw_unp2 ?hK ?hn ?_); (case hK => rfl); (case hn => rfl)))
local macro_rules | `(tactic| walk_at "side") => `(tactic| first
  | exact Or.inr (by decide)
  | exact Or.inl (by decide)
  | exact ⟨by decide, by decide⟩
  | exact ⟨by decide, by decide, by decide⟩
  | decide
  | (dsimp only; decide)
  | exact mw (by assumption) (by assumption))
local macro_rules | `(tactic| walk_at "r2") => `(tactic| first
  | walk_at "r1"
  | ((with_reducible refine ⟨_, opv_intC ?hC, ?_⟩); (case hC => walk_at "side"))
  | ((with_reducible refine ⟨_, cbv_lenL ?hK, ?_⟩); (case hK => rfl))
  | ((with_reducible refine ⟨_, cbv_allM ?hK, ?_⟩); (case hK => rfl))
  | ((with_reducible refine ⟨_, cbv_anyM ?hK, ?_⟩); (case hK => rfl))
  | ((with_reducible refine ⟨_, cbv_sumM ?hK, ?_⟩); (case hK => rfl))
  | ((with_reducible refine ⟨_, cbv_lenT ?hK, ?_⟩); (case hK => rfl))
  | (with_reducible refine ⟨_, opv_ixT (by with_unfolding_all rfl) (by with_unfolding_all rfl), ?_⟩)
  | refine br_t ?_
  | refine br_f ?_)
local macro_rules | `(tactic| walk_at "rd") => `(tactic| repeat (walk_at "r2"))
local macro_rules | `(tactic| walk_at "rs") => `(tactic| repeat ((fail_if_success (with_reducible refine sw_isif ?_)); walk_at "r2"))
local macro_rules | `(tactic| walk_at "nf") => `(tactic| (try simp only [List.set_cons_zero, List.set_cons_succ, Dl.sets, Dl.asD]))
local macro_rules | `(tactic| walk_at "ru") => `(tactic| repeat ((fail_if_success (with_reducible refine sw_seq ?_)); walk_at "r2"))

abbrev c__law_asked (A : Ad) : Cn := fun K w ds Ψ Ξ => ∃ (n : Int) (ts : List (Int × Int)) (ws : List Int), ds = [webD A n ts, .int n, .lst (ts.map shD), .lst (ws.map D.int)] ∧ DirOk n ts ws ∧ ts.length ≤ 100 ∧ Ψ (.fz (.bl true))
def arrF (ts : List (Int × Int)) (ws : List Int) : D → D
  | .int k => shD (arrowP (ts.getD k.toNat (0, 0)) (ws.getD k.toNat 0))
  | _ => .non
theorem arrF_all {ts : List (Int × Int)} {ws : List Int} (hl : ts.length = ws.length) : (rngD ts.length).map (arrF ts ws) = (arrowsL ts ws).map shD := by
  rw [rng_map]
  apply List.ext_getElem?
  intro i
  unfold arrowsL
  rw [List.getElem?_map, List.getElem?_map, List.getElem?_map]
  by_cases hi : i < ts.length
  · rw [List.getElem?_range hi, (List.getElem?_zip_eq_some (z := (ts[i], ws[i]))).mpr ⟨List.getElem?_eq_getElem hi, List.getElem?_eq_getElem (by omega)⟩]
    show some (shD (arrowP (ts.getD i (0, 0)) (ws.getD i 0))) = some (shD (arrowP ts[i] ws[i]))
    rw [List.getD_eq_getElem?_getD, List.getElem?_eq_getElem hi, List.getD_eq_getElem?_getD, List.getElem?_eq_getElem (by omega)]
    rfl
  · rw [List.getElem?_eq_none (by rw [List.length_range]; omega), List.getElem?_eq_none (l := ts.zip ws) (by rw [List.length_zip]; omega)]
    rfl
def endF (E : List (Nat × Nat)) : D → D
  | .int v => .int ((E.countP fun p => decide (p.2 = v.toNat) : Nat) : Int)
  | _ => .non
theorem ends_all {E : List (Nat × Nat)} {n : Nat} : (rngD n).map (endF E) = (endsL n E).map D.int := by
  rw [rng_map]
  unfold endsL
  rw [List.map_map]
  rfl
theorem sd_ints {ws : List Int} (h : ws.length ≤ 100000) : SD 4 (.tup (ws.map D.int)) := .tup 3 _ (fun d hd => by
  obtain ⟨i, _, rfl⟩ := List.mem_map.mp hd
  exact .int _ i) (by rw [List.length_map]; exact h)
theorem none_true {α : Type} {E : List α} {f : α → Bool} : ((E.map fun p => D.bl (f p)).any fun y => eqF y (.bl true)) = E.any f := by
  rw [List.any_map]
  congr 1
  funext p
  show (f p == true) = f p
  cases f p <;> rfl
theorem none_false {α : Type} {E : List α} {f : α → Bool} : (!((E.map fun p => D.bl (f p)).any fun y => eqF y (.bl false))) = E.all f := by
  rw [List.any_map]
  have e : ((fun y => eqF y (.bl false)) ∘ fun p => D.bl (f p)) = fun p => !(f p) := by
    funext p
    show (f p == false) = !(f p)
    cases f p <;> rfl
  rw [e, List.not_any_eq_all_not]
  congr 1
  funext p
  exact Bool.not_not (f p)
theorem any_congr {α : Type} {E : List α} {f g : α → Bool} (h : ∀ p ∈ E, f p = g p) : E.any f = E.any g := by
  induction E with
  | nil => rfl
  | cons x E ih => rw [List.any_cons, List.any_cons, h x List.mem_cons_self, ih fun p hp => h p (List.mem_cons_of_mem _ hp)]
theorem all_congr {α : Type} {E : List α} {f g : α → Bool} (h : ∀ p ∈ E, f p = g p) : E.all f = E.all g := by
  induction E with
  | nil => rfl
  | cons x E ih => rw [List.all_cons, List.all_cons, h x List.mem_cons_self, ih fun p hp => h p (List.mem_cons_of_mem _ hp)]
theorem l__law_asked (A : Ad) : ∀ K w ds Ψ Ξ, (c__law_asked A) K w ds Ψ Ξ → ds.length = 4 := fun K w ds Ψ Ξ h => by
  obtain ⟨_, _, _, rfl, _⟩ := h
  rfl
theorem ok__law_asked {P : Program} {w : World} {K : PySem.W.Frag} {mg : Str → Option Value} {base : Heap} {A : Ad} (T : Txt K mg A) : FnOk P w K mg base CX0 7 A._law_asked A.fd__law_asked ["web", "size", "ties", "row"] (SpD K AnyR (c__law_asked A)) := by
  refine Fun.ok T.F__law_asked sc__law_asked (fun vs H Q E h => spd_len (l__law_asked A) h) (fun cdv A' outer s H vs Q E hr h => ⟨_, (pss_cons (ps_set (i := 4) sc__law_asked.nd rfl (.inr rfl) (pe_lc (own := [("k", 5)]) (by rfl) sc__law_asked.nd (pi_range1 (by rfl) T.b_range (pa_cons (pe_callB call_len_seq (by rfl) T.b_len (by decide +kernel) (pa_cons (pv 2) pa_nil)) pa_nil)) (blkOk_by (own := [("k", 5)]) (N := ["web", "size", "ties", "row", "arrows", "k", "on", "direction", "ends", "arrow", "node"]) (sc := defScope s__law_asked) (by decide +kernel)) (fun _ _ _ _ _ => (pg_name (i := 5) sc__law_asked.nd rfl (.inl rfl))) (fun _ _ _ _ _ => pts_nil) (fun _ _ _ _ _ => (pe_ifExp (pt_cmpR op_eq (pe_ix (by exact (show IxR _ (rIxL K) from ix_list)) (pv 3) (pv 5) (fun _ _ => rfl)) pe_int (nomark _)) (pe_ix (by exact (show IxR _ (rIxL K) from ix_list)) (pv 2) (pv 5) (fun _ _ => rfl)) (pe_tup (pa_cons (pe_ix (by exact (show IxR _ (rIxT K) from ix_tup)) (pe_ix (by exact (show IxR _ (rIxL K) from ix_list)) (pv 2) (pv 5) (fun _ _ => rfl)) pe_int (fun _ _ => rfl)) (pa_cons (pe_ix (by exact (show IxR _ (rIxT K) from ix_tup)) (pe_ix (by exact (show IxR _ (rIxL K) from ix_list)) (pv 2) (pv 5) (fun _ _ => rfl)) pe_int (fun _ _ => rfl)) pa_nil)))))))
        (pss_cons (ps_set (i := 6) sc__law_asked.nd rfl (.inl rfl) (pe_call (ok__law_on_rings T) (hr.mono (by decide)) (by rfl) T.m__law_on_rings T.F__law_on_rings.kp (b__law_on_rings T) .nil pass0 (pa_cons (pv 1) (pa_cons (pv 4) pa_nil))))
        (pss_cons (ps_set (i := 7) sc__law_asked.nd rfl (.inl rfl) (pe_callTy call_tuple_of (by rfl) T.b_tuple (by decide +kernel) (pa_cons (pv 3) pa_nil)))
        (pss_cons (ps_set (i := 8) sc__law_asked.nd rfl (.inl rfl) (pe_callTy call_tuple_of (by rfl) T.b_tuple (by decide +kernel) (pa_cons (pe_lc (own := [("node", 10)]) (by rfl) sc__law_asked.nd (pi_range1 (by rfl) T.b_range (pa_cons (pv 1) pa_nil)) (blkOk_by (own := [("node", 10)]) (N := ["web", "size", "ties", "row", "arrows", "k", "on", "direction", "ends", "arrow", "node"]) (sc := defScope s__law_asked) (by decide +kernel)) (fun _ _ _ _ _ => (pg_name (i := 10) sc__law_asked.nd rfl (.inr rfl))) (fun _ _ _ _ _ => pts_nil) (fun _ _ _ _ _ => (pe_callB (by exact (show CallR _ _ (rLenS K) from call_len_seq)) (by rfl) T.b_len (by decide +kernel) (pa_cons (pe_lc (own := [("arrow", 9)]) (by rfl) sc__law_asked.nd (by exact (show PI _ _ _ (iList K _) from (pi_list (pv 4)))) (blkOk_by (own := [("arrow", 9)]) (N := ["web", "size", "ties", "row", "arrows", "k", "on", "direction", "ends", "arrow", "node"])  (by first | decide +kernel | (simp only [Cx.blk, compEnvC, relab_eq, cxOf, Cx.nox, Cx.wish, PyProof.Rows.envOfC]; decide +kernel))) (fun _ _ _ _ _ => (pg_name (i := 9) sc__law_asked.nd rfl (.inl rfl))) (fun _ _ _ _ _ => (pts_one (pt_cmpR op_eq (pe_ix (by exact (show IxR _ (rIxT K) from ix_tup)) (pv 9) pe_int (fun _ _ => rfl)) (pv 10) (nomark _)))) (fun _ _ _ _ _ => (pv 9))) pa_nil)))) pa_nil)))
        (pss_cons (ps_if (PW.pt (pw_or (pt_not (pt_val (pe_call (ok__law_same T) (hr.mono (by decide)) (by rfl) T.m__law_same T.F__law_same.kp (b__law_same T) .nil pass0 (pa_cons (pe_call (ok_is_direction T) (hr.mono (by decide)) (by rfl) T.m_is_direction T.F_is_direction.kp (b_is_direction T) .nil pass0 (pa_cons (pv 0) (pa_cons (pv 7) pa_nil))) (pa_cons pe_bl pa_nil))))) (pw_or1 (pt_not (pt_val (pe_call (ok__law_same T) (hr.mono (by decide)) (by rfl) T.m__law_same T.F__law_same.kp (b__law_same T) .nil pass0 (pa_cons (pe_call (ok_arrivals T) (hr.mono (by decide)) (by rfl) T.m_arrivals T.F_arrivals.kp (b_arrivals T) .nil pass0 (pa_cons (pv 0) (pa_cons (pv 7) pa_nil))) (pa_cons (pv 8) pa_nil)))))))) (pss_one (ps_ret pe_bl)) pss_nil)
        (pss_cons (ps_if (pt_not (pt_val (pe_call (ok__law_same T) (hr.mono (by decide)) (by rfl) T.m__law_same T.F__law_same.kp (b__law_same T) .nil pass0 (pa_cons (pe_call (ok_is_ringless T) (hr.mono (by decide)) (by rfl) T.m_is_ringless T.F_is_ringless.kp (b_is_ringless T) .nil pass0 (pa_cons (pv 0) (pa_cons (pv 7) pa_nil))) (pa_cons (pe_cmpR op_notIn_seq pe_bl (pv 6) (by rfl)) pa_nil))))) (pss_one (ps_ret pe_bl)) pss_nil)
        (pss_one (ps_ret (pe_call (ok__law_same T) (hr.mono (by decide)) (by rfl) T.m__law_same T.F__law_same.kp (b__law_same T) .nil pass0 (pa_cons (pe_call (ok_is_round T) (hr.mono (by decide)) (by rfl) T.m_is_round T.F_is_round.kp (b_is_round T) .nil pass0 (pa_cons (pv 0) (pa_cons (pv 7) pa_nil))) (pa_cons (pe_cmpR op_notIn_seq pe_bl (pv 6) (by rfl)) pa_nil))))))))))), ?_⟩)
  refine body_ok 4 (by decide) (l__law_asked A) h (fun Γ ds Ψ Ξ hK hX hF hc ke => ?_)
  subst hK
  obtain ⟨n, ts, ws, rfl, hd, hb, hc⟩ := hc
  have n0 := hd.n0
  have n1 := hd.n1
  have ht := hd.ht
  have hl := hd.hl
  have hE := arr_ok (ws := ws) ht
  have el := arr_len (ws := ws) hl
  refine sw_seq (sw_asg (ew_of_eb (eb_mapR rfl (aw_cons (ew_cb (aw_cons (ew_var rfl (aw_nil ⟨_, cbv_lenL rfl, aw_nil ⟨_, rfl, by omega, (fun es z => by cases z), by rw [rngD_len, List.length_map]; omega, arrF ts ws, fun x hx c => ?_, ?_⟩⟩))))))))
  · rw [List.length_map, Int.toNat_natCast] at hx
    obtain ⟨k, hk, rfl⟩ := rng_mem hx
    have hat : atI (ts.map shD) (k : Int) = some (shD (ts.getD k (0, 0))) := at_nat (by rw [List.getElem?_map, List.getElem?_eq_getElem hk, List.getD_eq_getElem?_getD, List.getElem?_eq_getElem hk]; rfl)
    walk_at "rd"
    refine ⟨_, opv_ixIL rfl (by omega) (by omega), ?_⟩
    walk_at "rd"
    refine ⟨fun h1 => ?_, fun h1 => ?_⟩
    · walk_at "rd"
      refine ⟨_, opv_ixL rfl hat, rfl, ?_⟩
      show _ = shD (arrowP (ts.getD ((k : Int)).toNat (0, 0)) (ws.getD ((k : Int)).toNat 0))
      unfold arrowP
      rw [if_pos (of_decide_eq_true h1), Int.toNat_natCast]
    · walk_at "rd"
      refine ⟨_, opv_ixL rfl hat, ?_⟩
      walk_at "rd"
      refine ⟨_, opv_ixL rfl hat, ?_⟩
      walk_at "rd"
      refine ⟨rfl, ?_⟩
      show _ = shD (arrowP (ts.getD ((k : Int)).toNat (0, 0)) (ws.getD ((k : Int)).toNat 0))
      unfold arrowP
      rw [if_neg (of_decide_eq_false h1), Int.toNat_natCast]
  · rw [List.length_map, Int.toNat_natCast, arrF_all hl, arr_prD ht]
    obtain ⟨m, rfl⟩ := Int.eq_ofNat_of_zero_le n0
    refine sw_seq (sw_asg ?_)
    walk_at "ru"
    refine ⟨by omega, by omega, hE, ?_⟩
    refine sw_seq (sw_asg ?_)
    walk_at "ru"
    refine sw_seq (sw_asg (ew_tupL rfl (ew_of_eb (eb_mapR rfl (aw_cons (ew_var rfl (aw_nil ⟨(m : Int), rfl, by omega, (fun es z => by cases z), by rw [rngD_len]; omega, endF (arrN ts ws), fun x hx c => ?_, ?_⟩)))))))
    · obtain ⟨v, hv, rfl⟩ := rng_mem hx
      refine ew_cb (aw_cons (ew_of_eb (eb_lcL rfl (ew_var rfl ⟨_, rfl, gw_name (by decide), fun j hj es => ?_, by rw [List.length_map]; omega, fun i acc => acc = (((arrN ts ws).take i).filter fun p => decide (p.2 = v)).map prD, rfl, ?_, ?_⟩))))
      · rw [List.mem_singleton.mp hj]
        intro z
        cases z
      · rintro i y acc c' hi rfl
        obtain ⟨p, hp, rfl⟩ := item_map hi
        refine ⟨_, gd_name, rfl, ?_⟩
        refine tw_test (ew_op (ew_op (ew_var rfl (ew_int ⟨_, opv_ixT rfl (at_nat (j := 1) rfl), ew_var rfl ⟨_, opv_eq, _, rfl, rfl, fun h1 => ew_var rfl ⟨rfl, ?_⟩, fun h1 => ?_⟩⟩))))
        · have e : decide (p.2 = v) = true := by
            have := of_decide_eq_true h1
            exact decide_eq_true (by omega)
          show _ = (((arrN ts ws).take (i + 1)).filter fun p => decide (p.2 = v)).map prD
          rw [get_take hp, List.filter_append, List.map_append, List.filter_cons, if_pos e]
          rfl
        · have e : ¬ decide (p.2 = v) = true := fun z => by
            have h2 := of_decide_eq_false h1
            have h3 := of_decide_eq_true z
            omega
          show _ = (((arrN ts ws).take (i + 1)).filter fun p => decide (p.2 = v)).map prD
          rw [get_take hp, List.filter_append, List.filter_cons, if_neg e]
          simp
      · rintro acc rfl
        refine aw_nil ⟨_, cbv_lenL rfl, rfl, ?_⟩
        rw [List.length_map, List.length_map, List.take_length]
        show D.int (((arrN ts ws).filter fun p => decide (p.2 = v)).length : Int) = D.int (((arrN ts ws).countP fun p => decide (p.2 = ((v : Nat) : Int).toNat) : Nat) : Int)
        rw [Int.toNat_natCast, List.countP_eq_length_filter]
    · refine ⟨_, rfl, ?_⟩
      rw [Int.toNat_natCast, ends_all]
      have dd : Dt1 Γ.K (.tup (ws.map D.int)) := dt1_ints (by omega)
      have hany : ((arrN ts ws).any fun p => Rc.bit (Rc.roundsL (arrN ts ws) m (Rc.ones m)) p.2 p.1) = (arrN ts ws).any (ringB (m : Int) ts ws) := any_congr fun p hp => by
        obtain ⟨p1, p2⟩ := hE p hp
        rw [Int.toNat_natCast] at p1 p2
        show _ = Rc.bit (Rc.reachL (m : Int).toNat (arrN ts ws)) p.2 p.1
        rw [Int.toNat_natCast, Rc.both (fun p hp => by have := hE p hp; rwa [Int.toNat_natCast] at this) p2 p1]
      have hall : ((arrN ts ws).all fun p => Rc.bit (Rc.roundsL (arrN ts ws) m (Rc.ones m)) p.2 p.1) = (arrN ts ws).all (ringB (m : Int) ts ws) := all_congr fun p hp => by
        obtain ⟨p1, p2⟩ := hE p hp
        rw [Int.toNat_natCast] at p1 p2
        show _ = Rc.bit (Rc.reachL (m : Int).toNat (arrN ts ws)) p.2 p.1
        rw [Int.toNat_natCast, Rc.both (fun p hp => by have := hE p hp; rwa [Int.toNat_natCast] at this) p2 p1]
      walk_at "rd"
      refine ⟨dd, ?_⟩
      rw [dirok_is hd]
      walk_at "rd"
      refine ⟨.bl _ _, _, rfl, br_f ?_⟩
      walk_at "rd"
      refine ⟨hd, ?_⟩
      rw [Int.toNat_natCast]
      walk_at "rd"
      refine ⟨sd_ints (by rw [ends_len]; omega), _, rfl, br_f ?_⟩
      walk_at "rd"
      refine ⟨hd, ?_⟩
      walk_at "rd"
      have flat : ((arrN ts ws).map fun p => D.bl (Rc.bit (Rc.roundsL (arrN ts ws) m (Rc.ones m)) p.2 p.1)).all flatD = true := by
        rw [List.all_map]
        exact List.all_eq_true.mpr fun p _ => rfl
      refine ⟨_, opv_inL rfl rfl flat, ?_⟩
      rw [if_pos rfl, none_true, hany]
      walk_at "rd"
      refine ⟨.bl _ _, _, rfl, br_f ?_⟩
      walk_at "rd"
      refine ⟨hd, ?_⟩
      walk_at "rd"
      refine ⟨_, opv_inL rfl rfl flat, ?_⟩
      rw [if_pos rfl, none_false, hall]
      walk_at "rd"
      exact ⟨.bl _ _, hc⟩
end Pf

namespace Pf
open PySem L2 Dl Sh
open Evl (Ex)
local macro_rules | `(tactic| walk_at "r0") => `(tactic| with_reducible first
  | refine sw_seq ?_
  | refine ew_var rfl ?_
  | refine ew_int ?_
  | refine ew_bl ?_
  | refine ew_non ?_
  | refine ew_str ?_
  | refine aw_cons ?_
  | refine aw_nil ?_
  | refine sw_par ?_
  | refine sw_next ?_
  | refine sw_if ?_
  | refine sw_ret ?_
  | refine tw_not ?_
  | refine tw_and ?_
  | refine tw_or ?_
  | refine tw_test ?_
  | refine tw_B ?_
  | refine tw_tru rfl ?_
  | refine ew_andV ?_
  | refine ew_orV ?_
  | refine ew_notV ?_
  | refine ew_if ?_
  | refine ew_chain ?_
  | refine ew_isN ?_
  | refine ew_tup ?_
  | refine ew_lst ?_
  | refine ew_isiD isN_int rfl ?_
  | refine ew_isiD isN_bool rfl ?_
  | refine ew_isiD isN_tuple rfl ?_
  | refine ew_isiD isN_list rfl ?_
  | refine ew_isiD isN_str rfl ?_
  | refine ew_isi2D isN_list isN_tuple rfl ?_
  | refine ew_isi2D isN_tuple isN_list rfl ?_
  | refine ew_cb ?_
  | refine ew_neg ?_
  | refine ew_op ?_
  | refine ⟨_, opv_int, ?_⟩
  | refine ⟨_, opv_cmp, ?_⟩
  | refine ⟨_, opv_eq, ?_⟩
  | refine ⟨_, opv_ne, ?_⟩
  | refine ⟨_, opv_eqB, ?_⟩
  | refine ⟨_, opv_eqS, ?_⟩
  | refine ⟨_, cbv_abs, ?_⟩
  | refine ⟨_, cbv_max2, ?_⟩
  | refine ⟨_, cbv_min2, ?_⟩
  | refine pw_none ?_
  | refine pw_some ?_
  | refine ⟨_, cbv_int, ?_⟩
  | refine ⟨_, rfl, ?_⟩
  | refine ⟨_, _, rfl, ?_⟩
  | refine ⟨_, _, _, rfl, ?_⟩
  | refine ⟨_, _, _, _, rfl, ?_⟩
  | refine br_t ?_
  | refine br_f ?_
  | refine ⟨dt_int, ?_⟩
  | refine ⟨dt_bl, ?_⟩
  | refine ⟨dt_str, ?_⟩
  | refine ⟨dt_non, ?_⟩
  | refine ⟨dt_tup, ?_⟩
  | refine ⟨dt_lst, ?_⟩
  | refine sw_asg ?_
  | refine sw_drop ?_)
local macro_rules | `(tactic| walk_at "r1") => `(tactic| first
  | ((with_reducible refine ew_tupL ?hK ?_); (case hK => rfl))
  | ((with_reducible refine ew_catT ?hK ?_); (case hK => rfl))
  | ((with_reducible refine ew_repT ?hK ?_); (case hK => rfl))
  | ((with_reducible refine ew_of_eb (eb_listL ?hK ?_)); (case hK => rfl))
  | ((with_reducible refine ew_of_eb (eb_cutL ?hK ?_)); (case hK => rfl))
  | walk_at "r0"
  | ((with_reducible refine ew_of_eb (eb_mapT ?hV ?hK ?_)); (case hK => rfl); (case hV => rfl))
  | ((with_reducible refine ew_of_eb (eb_mapL ?hV ?hK ?_)); (case hK => rfl); (case hV => rfl))
  | ((with_reducible refine ew_of_eb (eb_mapR ?hV ?_)); (case hV => rfl))
  | ((with_reducible refine ew_callP ?hK trivial ?_); (case hK => rfl))
  | ((with_reducible refine ew_callW ?hK trivial ?_); (case hK => rfl))
  | ((with_reducible refine ew_callH ?hK trivial ?_); (case hK => rfl))
  | ((with_reducible refine ew_callR ?hK ?hF ?_); (case hK => rfl); (case hF => assumption))
  | ((with_reducible refine len_ok ?hK ?_); (case hK => rfl))
  | ((with_reducible refine ew_notT ?hK ?_); (case hK => rfl))
  | ((with_reducible refine ew_cutT ?hK ?_); (case hK => rfl))
  | ((with_reducible refine ⟨(?hK : Dt _ _), ?_⟩); (case hK => assumption))
  | ((with_reducible refine sw_unp2 ?hK ?hn ?_); (case hK => rfl); (case hn => rfl)))
local macro_rules | `(tactic| walk_at "side") => `(tactic| first
  | exact Or.inr (by decide)
  | exact Or.inl (by decide)
  | exact ⟨by decide, by decide⟩
  | exact ⟨by decide, by decide, by decide⟩
  | decide
  | (dsimp only; decide)
  | exact mw (by assumption) (by assumption))
local macro_rules | `(tactic| walk_at "r2") => `(tactic| first
  | walk_at "r1"
  | ((with_reducible refine ⟨_, opv_intC ?hC, ?_⟩); (case hC => walk_at "side"))
  | ((with_reducible refine ⟨_, cbv_lenL ?hK, ?_⟩); (case hK => rfl))
  | ((with_reducible refine ⟨_, cbv_allM ?hK, ?_⟩); (case hK => rfl))
  | ((with_reducible refine ⟨_, cbv_anyM ?hK, ?_⟩); (case hK => rfl))
  | ((with_reducible refine ⟨_, cbv_sumM ?hK, ?_⟩); (case hK => rfl))
  | ((with_reducible refine ⟨_, cbv_lenT ?hK, ?_⟩); (case hK => rfl))
  | (with_reducible refine ⟨_, opv_ixT (by with_unfolding_all rfl) (by with_unfolding_all rfl), ?_⟩)
  | refine br_t ?_
  | refine br_f ?_)
local macro_rules | `(tactic| walk_at "rd") => `(tactic| repeat (walk_at "r2"))
local macro_rules | `(tactic| walk_at "rs") => `(tactic| repeat ((fail_if_success (with_reducible refine sw_isif ?_)); walk_at "r2"))
local macro_rules | `(tactic| walk_at "nf") => `(tactic| (try simp only [List.set_cons_zero, List.set_cons_succ, Dl.sets, Dl.asD]))
local macro_rules | `(tactic| walk_at "ru") => `(tactic| repeat ((fail_if_success (with_reducible refine sw_seq ?_)); walk_at "r2"))

abbrev c__law_spoilt : Cn := fun K w ds Ψ Ξ => ∃ ws : List Int, ds = [.ptr w, .lst (ws.map D.int)] ∧ ws.length ≤ 100 ∧ ∀ d, Dt1 K d → isDirD ws.length d = false → Ψ (.fz d)
theorem dir_len {m : Nat} {xs : List D} (h : xs.length ≠ m) : isDirD m (.tup xs) = false := by
  show (decide (xs.length = m) && xs.all isWayD) = false
  rw [decide_eq_false h, Bool.false_and]
theorem dir_mem {m : Nat} {xs : List D} {x : D} (hx : x ∈ xs) (h : isWayD x = false) : isDirD m (.tup xs) = false := by
  show (decide (xs.length = m) && xs.all isWayD) = false
  have : xs.all isWayD = false := by
    cases e : xs.all isWayD with
    | false => rfl
    | true =>
      have q := List.all_eq_true.mp e x hx
      rw [h] at q
      cases q
  rw [this, Bool.and_false]
theorem dt1_tup {K : PySem.W.Frag} {xs : List D} (hl : xs.length ≤ 99999) (h : ∀ y ∈ xs, Dt K y) : Dt1 K (.tup xs) := ⟨dt_tup, fun ys e => by cases e; exact ⟨hl, h⟩⟩
theorem dt1_no {K : PySem.W.Frag} {d : D} (h : Dt K d) (hn : isTupD d = false) : Dt1 K d := ⟨h, fun xs e => by subst e; cases hn⟩
theorem dts_int {K : PySem.W.Frag} {row : List Int} : ∀ y ∈ row.map D.int, Dt K y := fun y hy => by
  obtain ⟨i, _, rfl⟩ := List.mem_map.mp hy
  exact dt_int
theorem l__law_spoilt : ∀ K w ds Ψ Ξ, c__law_spoilt K w ds Ψ Ξ → ds.length = 2 := fun K w ds Ψ Ξ h => by
  obtain ⟨_, rfl, _⟩ := h
  rfl
theorem ok__law_spoilt {P : Program} {w : World} {K : PySem.W.Frag} {mg : Str → Option Value} {base : Heap} {A : Ad} (T : Txt K mg A) : FnOk P w K mg base CX0 2 A._law_spoilt A.fd__law_spoilt ["box", "row"] (SpD K IsBox c__law_spoilt) := by
  refine Fun.ok T.F__law_spoilt sc__law_spoilt (fun vs H Q E h => spd_len (l__law_spoilt) h) (fun cdv A' outer s H vs Q E hr h => ⟨_, (pss_cons (ps_set (i := 2) sc__law_spoilt.nd rfl (.inl rfl) (pe_call (ok__law_draw T) (hr.mono (by decide)) (by rfl) T.m__law_draw T.F__law_draw.kp (b__law_draw T) .nil pass0 (pa_cons (pv 0) (pa_cons pe_int pa_nil))))
        (pss_cons (ps_if (pt_cmpR op_eq (pv 2) pe_int (nomark _)) (pss_one (ps_ret (pe_callTy call_list_of (by rfl) T.b_list (by decide +kernel) (pa_cons (pv 1) pa_nil)))) pss_nil)
        (pss_cons (ps_if (pt_cmpR op_eq (pv 2) pe_int (nomark _)) (pss_one (ps_ret (pe_op op_catA (pe_callTy call_tuple_of (by rfl) T.b_tuple (by decide +kernel) (pa_cons (pv 1) pa_nil)) (pe_tup (pa_cons (pe_ix ix_list (pe_lst (pa_cons pe_int (pa_cons (pe_un un_neg pe_int) (pa_cons pe_int (pa_cons pe_non pa_nil))))) (pe_call (ok__law_draw T) (hr.mono (by decide)) (by rfl) T.m__law_draw T.F__law_draw.kp (b__law_draw T) .nil pass0 (pa_cons (pv 0) (pa_cons pe_int pa_nil))) (fun _ _ => rfl)) pa_nil))))) pss_nil)
        (pss_cons (ps_if (PW.pt (pw_or (pt_cmpR op_eq (pe_callB call_len_seq (by rfl) T.b_len (by decide +kernel) (pa_cons (pv 1) pa_nil)) pe_int (nomark _)) (pw_or1 (pt_cmpR op_eq (pv 2) pe_int (nomark _))))) (pss_one (ps_ret (pe_ix ix_list (pe_lst (pa_cons pe_non (pa_cons pe_bl (pa_cons pe_int (pa_cons (pe_un un_neg pe_int) (pa_cons pe_str (pa_cons pe_str (pa_cons (pe_lst pa_nil) (pa_cons (pe_lst (pa_cons pe_int pa_nil)) (pa_cons (pe_op op_repT1 (pe_tup (pa_cons pe_int pa_nil)) (pe_op op_add (pe_callB call_len_seq (by rfl) T.b_len (by decide +kernel) (pa_cons (pv 1) pa_nil)) pe_int)) (pa_cons (pe_tup (pa_cons (pe_callTy call_tuple_of (by rfl) T.b_tuple (by decide +kernel) (pa_cons (pv 1) pa_nil)) pa_nil)) pa_nil))))))))))) (pe_call (ok__law_draw T) (hr.mono (by decide)) (by rfl) T.m__law_draw T.F__law_draw.kp (b__law_draw T) .nil pass0 (pa_cons (pv 0) (pa_cons pe_int pa_nil))) (fun _ _ => rfl)))) pss_nil)
        (pss_cons (ps_if (pt_cmpR op_eq (pv 2) pe_int (nomark _)) (pss_one (ps_ret (pe_callTy call_tuple_of (by rfl) T.b_tuple (by decide +kernel) (pa_cons (pe_slice sl_list (pv 1) (po_some pe_int) po_none) pa_nil)))) pss_nil)
        (pss_cons (ps_set (i := 3) sc__law_spoilt.nd rfl (.inl rfl) (pe_call (ok__law_draw T) (hr.mono (by decide)) (by rfl) T.m__law_draw T.F__law_draw.kp (b__law_draw T) .nil pass0 (pa_cons (pv 0) (pa_cons (pe_callB call_len_seq (by rfl) T.b_len (by decide +kernel) (pa_cons (pv 1) pa_nil)) pa_nil))))
        (pss_cons (ps_set (i := 4) sc__law_spoilt.nd rfl (.inl rfl) (pe_lst (pa_cons pe_int (pa_cons pe_int (pa_cons (pe_un un_neg pe_int) (pa_cons pe_non (pa_cons pe_str (pa_cons (pe_tup (pa_cons (pe_ix ix_list (pv 1) (pv 3) (fun _ _ => rfl)) pa_nil)) (pa_cons (pe_lst (pa_cons (pe_ix ix_list (pv 1) (pv 3) (fun _ _ => rfl)) pa_nil)) (pa_cons pe_bl (pa_cons pe_bl (pa_cons (pe_op op_pow pe_int pe_int) (pa_cons (pe_tup (pa_cons pe_int (pa_cons pe_int pa_nil))) (pa_cons pe_str pa_nil))))))))))))))
        (pss_one (ps_ret (pe_op op_catA (pe_op op_catA (pe_callTy call_tuple_of (by rfl) T.b_tuple (by decide +kernel) (pa_cons (pe_slice sl_list (pv 1) po_none (po_some (pv 3))) pa_nil)) (pe_tup (pa_cons (pe_ix ix_list (pv 4) (pe_call (ok__law_draw T) (hr.mono (by decide)) (by rfl) T.m__law_draw T.F__law_draw.kp (b__law_draw T) .nil pass0 (pa_cons (pv 0) (pa_cons pe_int pa_nil))) (fun _ _ => rfl)) pa_nil))) (pe_callTy call_tuple_of (by rfl) T.b_tuple (by decide +kernel) (pa_cons (pe_slice sl_list (pv 1) (po_some (pe_op op_add (pv 3) pe_int)) po_none) pa_nil)))))))))))), ?_⟩)
  refine body_ok 2 (by decide) (l__law_spoilt) h (fun Γ ds Ψ Ξ hK hX hF hc ke => ?_)
  subst hK
  obtain ⟨ws, rfl, hl, hc⟩ := hc
  walk_at "rd"
  refine ⟨by decide, by decide, fun way w0 w1 => ?_⟩
  walk_at "rd"
  refine ⟨fun h1 => ?_, fun h1 => ?_⟩
  · walk_at "rd"
    exact ⟨_, .inl rfl, hc _ (dt1_no dt_lst rfl) rfl⟩
  · walk_at "rd"
    refine ⟨fun h2 => ?_, fun h2 => ?_⟩
    · walk_at "rd"
      refine ⟨by decide, by decide, fun d d0 d1 => ?_⟩
      obtain ⟨x, hx, hm⟩ := at_ex (ds := [.int 1, .int (-1), .int 0, .non]) d0 d1
      refine ⟨_, opv_ixL rfl hx, ?_⟩
      walk_at "rd"
      refine ⟨_, _, rfl, rfl, by rw [List.length_map]; show ws.length + 1 ≤ 100000; omega, ?_⟩
      refine hc _ (dt1_tup (by rw [List.length_append, List.length_map]; show ws.length + 1 ≤ _; omega) fun y hy => ?_) (dir_len (by rw [List.length_append, List.length_map]; show ws.length + 1 ≠ _; omega))
      rcases List.mem_append.mp hy with hy | hy
      · exact dts_int y hy
      · rw [List.mem_singleton.mp hy]
        simp only [List.mem_cons, List.not_mem_nil, or_false] at hm
        rcases hm with rfl | rfl | rfl | rfl
        · exact dt_int
        · exact dt_int
        · exact dt_int
        · exact dt_non
    · walk_at "rd"
      rw [List.length_map]
      refine ⟨fun h3 => br_t ?_, fun h3 => ?_⟩
      · walk_at "rd"
        rw [List.length_map]
        refine ⟨_, _, rfl, rfl, by simp, by omega, by omega, by decide, ?_⟩
        walk_at "rd"
        refine ⟨by decide, by decide, fun d d0 d1 => ?_⟩
        obtain ⟨x, hx, hm⟩ := at_ex (ds := [.non, .bl true, .int 1, .int (-1), .str "", .str "1", .lst [], .lst [.int 1], .tup (List.replicate ((ws.length : Int) + 1).toNat [D.int 1]).flatten, .tup [.tup (ws.map D.int)]]) d0 d1
        refine ⟨_, opv_ixL rfl hx, ?_⟩
        simp only [List.mem_cons, List.not_mem_nil, or_false] at hm
        have hrep : (List.replicate ((ws.length : Int) + 1).toNat [D.int 1]).flatten = List.replicate (ws.length + 1) (D.int 1) := by
          rw [flat_rep1, show ((ws.length : Int) + 1).toNat = ws.length + 1 by omega]
        rcases hm with rfl | rfl | rfl | rfl | rfl | rfl | rfl | rfl | rfl | rfl
        · exact hc _ (dt1_no dt_non rfl) rfl
        · exact hc _ (dt1_no dt_bl rfl) rfl
        · exact hc _ (dt1_no dt_int rfl) rfl
        · exact hc _ (dt1_no dt_int rfl) rfl
        · exact hc _ (dt1_no dt_str rfl) rfl
        · exact hc _ (dt1_no dt_str rfl) rfl
        · exact hc _ (dt1_no dt_lst rfl) rfl
        · exact hc _ (dt1_no dt_lst rfl) rfl
        · rw [hrep]
          refine hc _ (dt1_tup (by rw [List.length_replicate]; omega) fun y hy => ?_) (dir_len (by rw [List.length_replicate]; omega))
          rw [(List.mem_replicate.mp hy).2]
          exact dt_int
        · exact hc _ (dt1_tup (by show 1 ≤ 99999; omega) fun y hy => by rw [List.mem_singleton.mp hy]; exact dt_tup) (dir_mem (x := .tup (ws.map D.int)) (by simp) rfl)
      · have hp : 0 < ws.length := by
          have := of_decide_eq_false h3
          omega
        walk_at "rd"
        refine ⟨fun h4 => ?_, fun h4 => ?_⟩
        · walk_at "rd"
          rw [List.length_map]
          refine ⟨_, _, rfl, rfl, by simp, by omega, by omega, by decide, ?_⟩
          walk_at "rd"
          refine ⟨by decide, by decide, fun d d0 d1 => ?_⟩
          obtain ⟨x, hx, hm⟩ := at_ex (ds := [.non, .bl true, .int 1, .int (-1), .str "", .str "1", .lst [], .lst [.int 1], .tup (List.replicate ((ws.length : Int) + 1).toNat [D.int 1]).flatten, .tup [.tup (ws.map D.int)]]) d0 d1
          refine ⟨_, opv_ixL rfl hx, ?_⟩
          simp only [List.mem_cons, List.not_mem_nil, or_false] at hm
          have hrep : (List.replicate ((ws.length : Int) + 1).toNat [D.int 1]).flatten = List.replicate (ws.length + 1) (D.int 1) := by
            rw [flat_rep1, show ((ws.length : Int) + 1).toNat = ws.length + 1 by omega]
          rcases hm with rfl | rfl | rfl | rfl | rfl | rfl | rfl | rfl | rfl | rfl
          · exact hc _ (dt1_no dt_non rfl) rfl
          · exact hc _ (dt1_no dt_bl rfl) rfl
          · exact hc _ (dt1_no dt_int rfl) rfl
          · exact hc _ (dt1_no dt_int rfl) rfl
          · exact hc _ (dt1_no dt_str rfl) rfl
          · exact hc _ (dt1_no dt_str rfl) rfl
          · exact hc _ (dt1_no dt_lst rfl) rfl
          · exact hc _ (dt1_no dt_lst rfl) rfl
          · rw [hrep]
            refine hc _ (dt1_tup (by rw [List.length_replicate]; omega) fun y hy => ?_) (dir_len (by rw [List.length_replicate]; omega))
            rw [(List.mem_replicate.mp hy).2]
            exact dt_int
          · exact hc _ (dt1_tup (by show 1 ≤ 99999; omega) fun y hy => by rw [List.mem_singleton.mp hy]; exact dt_tup) (dir_mem (x := .tup (ws.map D.int)) (by simp) rfl)
        · walk_at "rd"
          refine ⟨fun h5 => ?_, fun h5 => ?_⟩
          · walk_at "rd"
            have e2 : cutD (ws.map D.int) (some (1 : Int)) none = (ws.drop 1).map D.int := cut_tail (k := 1)
            rw [e2]
            exact hc _ (dt1_tup (by rw [List.length_map, List.length_drop]; omega) dts_int) (dir_len (by rw [List.length_map, List.length_drop]; omega))
          · walk_at "rd"
            rw [List.length_map]
            refine ⟨by omega, by omega, fun k k0 k1 => ?_⟩
            walk_at "rd"
            refine ⟨_, opv_ixIL rfl k0 k1, ?_⟩
            walk_at "rd"
            refine ⟨_, opv_ixIL rfl k0 k1, ?_⟩
            walk_at "rd"
            refine ⟨by decide, by decide, fun e e0 e1 => ?_⟩
            generalize ws.getD k.toNat 0 = o
            obtain ⟨x, hx, hm⟩ := at_ex (ds := [.int 0, .int 2, .int (-2), .non, .str "1", .tup [.int o], .lst [.int o], .bl true, .bl false, .int (10 ^ (6 : Int).toNat), .tup [.int 1, .int 1], .str ""]) e0 e1
            have hxs : Dt Γ.K x ∧ isWayD x = false := by
              simp only [List.mem_cons, List.not_mem_nil, or_false] at hm
              rcases hm with rfl | rfl | rfl | rfl | rfl | rfl | rfl | rfl | rfl | rfl | rfl | rfl
              · exact ⟨dt_int, rfl⟩
              · exact ⟨dt_int, rfl⟩
              · exact ⟨dt_int, rfl⟩
              · exact ⟨dt_non, rfl⟩
              · exact ⟨dt_str, rfl⟩
              · exact ⟨dt_tup, rfl⟩
              · exact ⟨dt_lst, rfl⟩
              · exact ⟨dt_bl, rfl⟩
              · exact ⟨dt_bl, rfl⟩
              · exact ⟨dt_int, by decide⟩
              · exact ⟨dt_tup, rfl⟩
              · exact ⟨dt_str, rfl⟩
            refine ⟨_, opv_ixL rfl hx, ?_⟩
            have g1 := cut_len (ds := ws.map D.int) (lo := none) (hi := some k)
            have g2 := cut_len (ds := ws.map D.int) (lo := some (k + 1)) (hi := none)
            rw [List.length_map] at g1 g2
            walk_at "rd"
            refine ⟨_, _, rfl, rfl, by show _ + 1 ≤ 100000; omega, ?_⟩
            walk_at "rd"
            refine ⟨_, _, rfl, rfl, by rw [List.length_append]; show _ + 1 + _ ≤ 100000; omega, ?_⟩
            refine hc _ (dt1_tup (by rw [List.length_append, List.length_append]; show _ + 1 + _ ≤ 99999; omega) fun y hy => ?_) (dir_mem (x := x) (by simp) hxs.2)
            rcases List.mem_append.mp hy with hy | hy
            · rcases List.mem_append.mp hy with hy | hy
              · exact dts_int y (mem_cut hy)
              · rw [List.mem_singleton.mp hy]
                exact hxs.1
            · exact dts_int y (mem_cut hy)
end Pf

namespace Pf
open PySem L2 Dl Sh
open Evl (Ex)
local macro_rules | `(tactic| walk_at "r0") => `(tactic| with_reducible first
  | refine sw_seq ?_
  | refine ew_var rfl ?_
  | refine ew_int ?_
  | refine ew_bl ?_
  | refine ew_non ?_
  | refine ew_str ?_
  | refine aw_cons ?_
  | refine aw_nil ?_
  | refine sw_par ?_
  | refine sw_next ?_
  | refine sw_if ?_
  | refine sw_ret ?_
  | refine tw_not ?_
  | refine tw_and ?_
  | refine tw_or ?_
  | refine tw_test ?_
  | refine tw_B ?_
  | refine tw_tru rfl ?_
  | refine ew_andV ?_
  | refine ew_orV ?_
  | refine ew_notV ?_
  | refine ew_if ?_
  | refine ew_chain ?_
  | refine ew_isN ?_
  | refine ew_tup ?_
  | refine ew_lst ?_
  | refine ew_isiD isN_int rfl ?_
  | refine ew_isiD isN_bool rfl ?_
  | refine ew_isiD isN_tuple rfl ?_
  | refine ew_isiD isN_list rfl ?_
  | refine ew_isiD isN_str rfl ?_
  | refine ew_isi2D isN_list isN_tuple rfl ?_
  | refine ew_isi2D isN_tuple isN_list rfl ?_
  | refine ew_cb ?_
  | refine ew_neg ?_
  | refine ew_op ?_
  | refine ⟨_, opv_int, ?_⟩
  | refine ⟨_, opv_cmp, ?_⟩
  | refine ⟨_, opv_eq, ?_⟩
  | refine ⟨_, opv_ne, ?_⟩
  | refine ⟨_, opv_eqB, ?_⟩
  | refine ⟨_, opv_eqS, ?_⟩
  | refine ⟨_, cbv_abs, ?_⟩
  | refine ⟨_, cbv_max2, ?_⟩
  | refine ⟨_, cbv_min2, ?_⟩
  | refine pw_none ?_
  | refine pw_some ?_
  | refine ⟨_, cbv_int, ?_⟩
  | refine ⟨_, rfl, ?_⟩
  | refine ⟨_, _, rfl, ?_⟩
  | refine ⟨_, _, _, rfl, ?_⟩
  | refine ⟨_, _, _, _, rfl, ?_⟩
  | refine br_t ?_
  | refine br_f ?_
  | refine ⟨dt_int, ?_⟩
  | refine ⟨dt_bl, ?_⟩
  | refine ⟨dt_str, ?_⟩
  | refine ⟨dt_non, ?_⟩
  | refine ⟨dt_tup, ?_⟩
  | refine ⟨dt_lst, ?_⟩
  | refine sw_asg ?_
  | refine sw_drop ?_)
local macro_rules | `(tactic| walk_at "r1") => `(tactic| first
  | ((with_reducible refine ew_tupL ?hK ?_); (case hK => rfl))
  | ((with_reducible refine ew_catT ?hK ?_); (case hK => rfl))
  | ((with_reducible refine ew_repT ?hK ?_); (case hK => rfl))
  | ((with_reducible refine ew_of_eb (eb_listL ?hK ?_)); (case hK => rfl))
  | ((with_reducible refine ew_of_eb (eb_cutL ?hK ?_)); (case hK => rfl))
  | walk_at "r0"
  | ((with_reducible refine ew_of_eb (eb_mapT ?hV ?hK ?_)); (case hK => rfl); (case hV => rfl))
  | ((with_reducible refine ew_of_eb (eb_mapL ?hV ?hK ?_)); (case hK => rfl); (case hV => rfl))
  | ((with_reducible refine ew_of_eb (eb_mapR ?hV ?_)); (case hV => rfl))
  | ((with_reducible refine ew_callP ?hK trivial ?_); (case hK => rfl))
  | ((with_reducible refine ew_callW ?hK trivial ?_); (case hK => rfl))
  | ((with_reducible refine ew_callH ?hK trivial ?_); (case hK => rfl))
  | ((with_reducible refine ew_callR ?hK ?hF ?_); (case hK => rfl); (case hF => assumption))
  | ((with_reducible refine len_ok ?hK ?_); (case hK => rfl))
  | ((with_reducible refine ew_notT ?hK ?_); (case hK => rfl))
  | ((with_reducible refine ew_cutT ?hK ?_); (case hK => rfl))
  | ((with_reducible refine ⟨(?hK : Dt _ _), ?_⟩); (case hK => assumption))
  | ((with_reducible refine sw_unp2 ?hK ?hn ?_); (case hK => rfl); (case hn => rfl)))
local macro_rules | `(tactic| walk_at "side") => `(tactic| first
  | exact Or.inr (by decide)
  | exact Or.inl (by decide)
  | exact ⟨by decide, by decide⟩
  | exact ⟨by decide, by decide, by decide⟩
  | decide
  | (dsimp only; decide)
  | exact mw (by assumption) (by assumption))
local macro_rules | `(tactic| walk_at "r2") => `(tactic| first
  | walk_at "r1"
  | ((with_reducible refine ⟨_, opv_intC ?hC, ?_⟩); (case hC => walk_at "side"))
  | ((with_reducible refine ⟨_, cbv_lenL ?hK, ?_⟩); (case hK => rfl))
  | ((with_reducible refine ⟨_, cbv_allM ?hK, ?_⟩); (case hK => rfl))
  | ((with_reducible refine ⟨_, cbv_anyM ?hK, ?_⟩); (case hK => rfl))
  | ((with_reducible refine ⟨_, cbv_sumM ?hK, ?_⟩); (case hK => rfl))
  | ((with_reducible refine ⟨_, cbv_lenT ?hK, ?_⟩); (case hK => rfl))
  | (with_reducible refine ⟨_, opv_ixT (by with_unfolding_all rfl) (by with_unfolding_all rfl), ?_⟩)
  | refine br_t ?_
  | refine br_f ?_)
local macro_rules | `(tactic| walk_at "rd") => `(tactic| repeat (walk_at "r2"))
local macro_rules | `(tactic| walk_at "rs") => `(tactic| repeat ((fail_if_success (with_reducible refine sw_isif ?_)); walk_at "r2"))
local macro_rules | `(tactic| walk_at "nf") => `(tactic| (try simp only [List.set_cons_zero, List.set_cons_succ, Dl.sets, Dl.asD]))
local macro_rules | `(tactic| walk_at "ru") => `(tactic| repeat ((fail_if_success (with_reducible refine sw_seq ?_)); walk_at "r2"))

def IsNo (R : Rsc) : Prop := R = Rsc.no
abbrev c__law_all : Cn := fun K w ds Ψ Ξ => ∃ ns : List Int, ds = [.lst (ns.map D.int)] ∧ ns.length ≤ 63 ∧ Ψ (.fz (.bl true))
def pickT (ts : List (Int × Int)) : D → D
  | .int k => shD (ts.getD k.toNat (0, 0))
  | _ => .non
def pickI (ws : List Int) : D → D
  | .int k => .int (ws.getD k.toNat 0)
  | _ => .non
theorem ties_getD {n : Int} {ts : List (Int × Int)} {k : Nat} (h : TiesOk n ts) (hk : k < ts.length) : 0 ≤ (ts.getD k (0, 0)).1 ∧ (ts.getD k (0, 0)).1 ≤ (ts.getD k (0, 0)).2 ∧ (ts.getD k (0, 0)).2 < n := by
  refine h _ ?_
  rw [List.getD_eq_getElem?_getD, List.getElem?_eq_getElem hk]
  exact List.getElem_mem hk
theorem at_ties {ts : List (Int × Int)} {k : Nat} (hk : k < ts.length) : atI (ts.map shD) (k : Int) = some (shD (ts.getD k (0, 0))) := at_nat (by
  rw [List.getElem?_map, List.getElem?_eq_getElem hk, List.getD_eq_getElem?_getD, List.getElem?_eq_getElem hk]
  rfl)
/-- what is told of ties makes the web of these ties -/
theorem told_make {K : PySem.W.Frag} {ts : List (Int × Int)} {d : D} (h : ToldD ts d) (hl : ts.length ≤ 1000) : FzD K 4 d ∧ frzD 4 d = .tup (ts.map shD) := by
  have one : ∀ {k : Nat} {i : Int}, FzD K k (.int i) := fun {k i} => .one k _ dt_int rfl rfl
  have pr : ∀ {p : Int × Int}, FzD K 3 (shD p) := fun {p} => .tup 2 _ (fun d hd => by
    simp only [List.mem_cons, List.not_mem_nil, or_false] at hd
    rcases hd with rfl | rfl <;> exact one) (by show 2 ≤ 99999; omega)
  have ps : ∀ {p : Int × Int}, FzD K 3 (lsD p) := fun {p} => .lst 2 _ (fun d hd => by
    simp only [List.mem_cons, List.not_mem_nil, or_false] at hd
    rcases hd with rfl | rfl <;> exact one) (by show 2 ≤ 99999; omega)
  have e1 : (ts.map shD).map (frzD 3) = ts.map shD := by
    rw [List.map_map]
    rfl
  have e2 : (ts.map lsD).map (frzD 3) = ts.map shD := by
    rw [List.map_map]
    rfl
  rcases h with rfl | rfl | rfl
  · refine ⟨.tup 3 _ (fun d hd => ?_) (by rw [List.length_map]; omega), ?_⟩
    · obtain ⟨p, _, rfl⟩ := List.mem_map.mp hd
      exact pr
    · show D.tup ((ts.map shD).map (frzD 3)) = _
      rw [e1]
  · refine ⟨.lst 3 _ (fun d hd => ?_) (by rw [List.length_map]; omega), ?_⟩
    · obtain ⟨p, _, rfl⟩ := List.mem_map.mp hd
      exact pr
    · show D.tup ((ts.map shD).map (frzD 3)) = _
      rw [e1]
  · refine ⟨.lst 3 _ (fun d hd => ?_) (by rw [List.length_map]; omega), ?_⟩
    · obtain ⟨p, _, rfl⟩ := List.mem_map.mp hd
      exact ps
    · show D.tup ((ts.map lsD).map (frzD 3)) = _
      rw [e2]
theorem dt3_ties {K : PySem.W.Frag} {ts : List (Int × Int)} (hl : ts.length ≤ 1000) : Dt3 K (.tup (ts.map shD)) := ⟨dt_tup, fun xs e => by
  cases e
  refine ⟨by rw [List.length_map]; omega, fun x hx => ?_⟩
  obtain ⟨p, _, rfl⟩ := List.mem_map.mp hx
  exact dt2_ints⟩
theorem web_ok {n : Int} {ts : List (Int × Int)} (n0 : 0 ≤ n) (ht : TiesOk n ts) : isWebD (.int n) (.tup (ts.map shD)) = true := by
  show (decide (0 ≤ n) && (ts.map shD).all (isTieD n)) = true
  rw [decide_eq_true n0, Bool.true_and, List.all_map]
  refine List.all_eq_true.mpr fun p hp => ?_
  obtain ⟨p0, p1, p2⟩ := ht p hp
  show ((decide (0 ≤ p.2) && decide (p.2 < n)) && (decide (0 ≤ p.1) && decide (p.1 < p.2 + 1))) = true
  rw [decide_eq_true (by omega), decide_eq_true p2, decide_eq_true p0, decide_eq_true (by omega)]
  rfl
theorem l__law_all : ∀ K w ds Ψ Ξ, c__law_all K w ds Ψ Ξ → ds.length = 1 := fun K w ds Ψ Ξ h => by
  obtain ⟨_, rfl, _⟩ := h
  rfl
theorem ok__law_all {P : Program} {w : World} {K : PySem.W.Frag} {mg : Str → Option Value} {base : Heap} {A : Ad} (T : Txt K mg A) : FnOk P w K mg base CX0 9 A._law_all A.fd__law_all ["script"] (SpD K IsNo c__law_all) := by
  refine Fun.ok T.F__law_all sc__law_all (fun vs H Q E h => spd_len (l__law_all) h) (fun cdv A' outer s H vs Q E hr h => ⟨_, (pss_cons (ps_set (i := 1) sc__law_all.nd rfl (.inl rfl) (pe_call (ok__law_box T) (hr.mono (by decide)) (by rfl) T.m__law_box T.F__law_box.kp (b__law_box T) .nil pass0 (pa_cons (pv 0) pa_nil)))
        (pss_cons (ps_asg (pe_call (ok__law_web T) (hr.mono (by decide)) (by rfl) T.m__law_web T.F__law_web.kp (b__law_web T) .nil pass0 (pa_cons (pv 1) (pa_cons (pe_lst (pa_cons pe_int (pa_cons pe_int (pa_cons pe_int (pa_cons pe_int (pa_cons pe_int (pa_cons pe_int (pa_cons pe_int (pa_cons pe_int (pa_cons pe_int (pa_cons pe_int pa_nil))))))))))) (pa_cons (pe_ix ix_list (pe_lst (pa_cons pe_int (pa_cons pe_int (pa_cons pe_int (pa_cons pe_int pa_nil))))) (pe_call (ok__law_draw T) (hr.mono (by decide)) (by rfl) T.m__law_draw T.F__law_draw.kp (b__law_draw T) .nil pass0 (pa_cons (pv 1) (pa_cons pe_int pa_nil))) (fun _ _ => rfl)) pa_nil)))) (pg_tup (by rfl) (pgs_cons (pg_name (i := 2) sc__law_all.nd rfl (.inl rfl)) (pgs_cons (pg_name (i := 3) sc__law_all.nd rfl (.inr rfl)) pgs_nil))))
        (pss_cons (ps_set (i := 3) sc__law_all.nd rfl (.inr rfl) (pe_call (ok__law_looped T) (hr.mono (by decide)) (by rfl) T.m__law_looped T.F__law_looped.kp (b__law_looped T) .nil pass0 (pa_cons (pv 1) (pa_cons (pv 2) (pa_cons (pv 3) pa_nil)))))
        (pss_cons (ps_set (i := 4) sc__law_all.nd rfl (.inl rfl) (pe_make T.mk_Web (ok_Web__init T) (hr.mono (by decide)) (by rfl) T.m_Web (b_Web__init T) .nil passLN (pa_cons (pv 2) (pa_cons (pe_call (ok__law_told T) (hr.mono (by decide)) (by rfl) T.m__law_told T.F__law_told.kp (b__law_told T) .nil pass0 (pa_cons (pv 1) (pa_cons (pv 3) pa_nil))) pa_nil))))
        (pss_cons (ps_set (i := 5) sc__law_all.nd rfl (.inl rfl) (pe_call (ok__law_mixed T) (hr.mono (by decide)) (by rfl) T.m__law_mixed T.F__law_mixed.kp (b__law_mixed T) .nil pass0 (pa_cons (pv 1) (pa_cons (pe_listRg rfl (by rfl) T.b_list (prg_1 (by rfl) T.b_range (pe_callB call_len_seq (by rfl) T.b_len (by decide +kernel) (pa_cons (pv 3) pa_nil)))) pa_nil))))
        (pss_cons (ps_setLc (i := 6) (own := [("k", 7)]) (by rfl) sc__law_all.nd rfl rfl (sw_true rfl rfl rfl (by decide +kernel)) (pi_list (pv 5)) (blkOk_by (own := [("k", 7)]) (N := ["script", "box", "size", "ties", "web", "order", "moved", "k", "other", "turn", "row", "value"]) (sc := defScope s__law_all) (by decide +kernel)) (fun _ _ _ _ _ => (pg_name (i := 7) sc__law_all.nd rfl (.inl rfl))) (fun _ _ _ _ _ => pts_nil) (fun _ _ _ _ _ => (pe_ix (by exact (show IxR _ (rIxL K) from ix_list)) (pv 3) (pv 7) (fun _ _ => rfl))))
        (pss_cons (ps_set (i := 8) sc__law_all.nd rfl (.inl rfl) (pe_make T.mk_Web (ok_Web__init T) (hr.mono (by decide)) (by rfl) T.m_Web (b_Web__init T) .nil passLN (pa_cons (pv 2) (pa_cons (pe_call (ok__law_told T) (hr.mono (by decide)) (by rfl) T.m__law_told T.F__law_told.kp (b__law_told T) .nil pass0 (pa_cons (pv 1) (pa_cons (pv 6) pa_nil))) pa_nil))))
        (pss_cons (ps_for PassesOwn.never rfl (pi_range1 (by rfl) T.b_range (pa_cons pe_int pa_nil)) (pg_name (i := 9) sc__law_all.nd rfl (.inl rfl)) (pss_cons (ps_set (i := 10) sc__law_all.nd rfl (.inr rfl) (pe_call (ok__law_drawn T) (hr.mono (by decide)) (by rfl) T.m__law_drawn T.F__law_drawn.kp (b__law_drawn T) .nil pass0 (pa_cons (pv 1) (pa_cons (pv 2) (pa_cons (pv 3) pa_nil)))))
        (pss_cons (ps_if (pt_not (pt_val (pe_call (ok__law_asked T) (hr.mono (by decide)) (by rfl) T.m__law_asked T.F__law_asked.kp (b__law_asked T) .nil pass0 (pa_cons (pv 4) (pa_cons (pv 2) (pa_cons (pv 3) (pa_cons (pv 10) pa_nil))))))) (pss_one (ps_ret pe_bl)) pss_nil)
        (pss_cons (ps_if (PW.pt (pw_or (pt_not (pt_val (pe_call (ok__law_asked T) (hr.mono (by decide)) (by rfl) T.m__law_asked T.F__law_asked.kp (b__law_asked T) .nil pass0 (pa_cons (pv 8) (pa_cons (pv 2) (pa_cons (pv 6) (pa_cons (pv 10) pa_nil))))))) (pw_or1 (pt_not (pt_val (pe_call (ok__law_asked T) (hr.mono (by decide)) (by rfl) T.m__law_asked T.F__law_asked.kp (b__law_asked T) .nil pass0 (pa_cons (pv 8) (pa_cons (pv 2) (pa_cons (pv 6) (pa_cons (pe_lc (own := [("k", 7)]) (by rfl) sc__law_all.nd (pi_list (pv 5)) (blkOk_by (own := [("k", 7)]) (N := ["script", "box", "size", "ties", "web", "order", "moved", "k", "other", "turn", "row", "value"]) (sc := defScope s__law_all) (by decide +kernel)) (fun _ _ _ _ _ => (pg_name (i := 7) sc__law_all.nd rfl (.inl rfl))) (fun _ _ _ _ _ => pts_nil) (fun _ _ _ _ _ => (pe_ix (by exact (show IxR _ (rIxL K) from ix_list)) (pv 10) (pv 7) (fun _ _ => rfl)))) pa_nil)))))))))) (pss_one (ps_ret pe_bl)) pss_nil)
        (pss_cons (ps_set (i := 11) sc__law_all.nd rfl (.inl rfl) (pe_call (ok__law_spoilt T) (hr.mono (by decide)) (by rfl) T.m__law_spoilt T.F__law_spoilt.kp (b__law_spoilt T) .nil pass0 (pa_cons (pv 1) (pa_cons (pv 10) pa_nil))))
        (pss_one (ps_if (PW.pt (pw_or (pt_not (pt_val (pe_call (ok__law_same T) (hr.mono (by decide)) (by rfl) T.m__law_same T.F__law_same.kp (b__law_same T) .nil pass0 (pa_cons (pe_call (ok_is_direction T) (hr.mono (by decide)) (by rfl) T.m_is_direction T.F_is_direction.kp (b_is_direction T) .nil pass0 (pa_cons (pv 4) (pa_cons (pv 11) pa_nil))) (pa_cons pe_bl pa_nil))))) (pw_or1 (pt_not (pt_val (pe_call (ok__law_same T) (hr.mono (by decide)) (by rfl) T.m__law_same T.F__law_same.kp (b__law_same T) .nil pass0 (pa_cons (pe_callK0 (ok_is_direction T) (hr.mono (by decide)) (by rfl) T.m_is_direction T.F_is_direction.kp (kb_is_direction_0_value_web T) pass0 (pk_cons (pv 11) (pk_cons (pv 8) pk_nil))) (pa_cons pe_bl pa_nil)))))))) (pss_one (ps_ret pe_bl)) pss_nil)))))))
        (pss_one (ps_ret pe_bl)))))))))), ?_⟩)
  refine body_ok 1 (by decide) (l__law_all) h (fun Γ ds Ψ Ξ hK hX hF hc ke => ?_)
  subst hK
  obtain ⟨ns, rfl, hns, hc⟩ := hc
  have hN : Γ.R = Rsc.no := hF
  refine sw_box rfl hN hX (ew_var rfl ⟨ns, rfl, hns, fun R hR => ?_⟩)
  refine sw_seq (sw_unp2 rfl rfl (ew_callR rfl hR (aw_cons (ew_var rfl (aw_cons ?_)))))
  walk_at "ru"
  refine ⟨by decide, by decide, fun d d0 d1 => ?_⟩
  refine ⟨_, opv_ixIL (S := [5, 7, 10, 4]) rfl d0 d1, ?_⟩
  have hmost : 0 ≤ ([5, 7, 10, 4] : List Int).getD d.toNat 0 ∧ ([5, 7, 10, 4] : List Int).getD d.toNat 0 ≤ 10 := by
    obtain ⟨k, rfl⟩ := Int.eq_ofNat_of_zero_le d0
    have hk : k < 4 := by omega
    have : ∀ k : Fin 4, 0 ≤ ([5, 7, 10, 4] : List Int).getD k.val 0 ∧ ([5, 7, 10, 4] : List Int).getD k.val 0 ≤ 10 := by decide
    exact this ⟨k, hk⟩
  generalize ([5, 7, 10, 4] : List Int).getD d.toNat 0 = most at hmost ⊢
  refine aw_nil ⟨[4, 5, 3, 6, 7, 4, 2, 1, 5, 0], most, rfl, by decide, by decide, by decide, hmost.1, by omega, fun n ts n0 n1 ht hl => ⟨_, _, rfl, ?_⟩⟩
  refine sw_seq (sw_asg (ew_callR rfl hR (aw_cons (ew_var rfl (aw_cons (ew_var rfl (aw_cons (ew_var rfl (aw_nil ⟨n, ts, rfl, n0, by omega, ht, by omega, fun us hu hul => ?_⟩)))))))))
  have hul : us.length ≤ 11 := by omega
  refine sw_seq (sw_asg (ew_of_eb (eb_make rfl (aw_cons (ew_var rfl (aw_cons (ew_callR rfl hR ?_)))))))
  refine aw_cons (ew_var rfl (aw_cons (ew_var rfl (aw_nil ⟨us, rfl, by omega, fun d hd => ?_⟩))))
  refine aw_nil ⟨_, _, rfl, (told_make hd (by omega)).1, dt_int, ?_, ?_, ?_⟩
  · rw [(told_make (K := Γ.K) hd (by omega)).2]
    exact dt3_ties (by omega)
  · intro _
    rw [(told_make (K := Γ.K) hd (by omega)).2]
    refine sw_seq (sw_asg (ew_callR rfl hR (aw_cons (ew_var rfl (aw_cons (ew_of_eb (eb_listRg (ew_cb ?_))))))))
    refine aw_cons (ew_var rfl (aw_nil ⟨_, cbv_lenL rfl, _, rfl, ?_, aw_nil ⟨_, rfl, ?_, fun ys hys => ?_⟩⟩))
    · rw [List.length_map]
      constructor <;> omega
    · rw [rngD_len, List.length_map]
      omega
    · rw [List.length_map, Int.toNat_natCast] at hys
      obtain ⟨q, rfl, hql, hqm⟩ := mixed_rng hys
      refine sw_seq (sw_asg (ew_of_eb (eb_mapL rfl rfl (ew_var rfl ⟨_, rfl, (fun es z => by cases z), by rw [List.length_map]; omega, pickT us, fun x hx c => ?_, ?_⟩))))
      · obtain ⟨v, hv, rfl⟩ := List.mem_map.mp hx
        obtain ⟨v0, v1⟩ := hqm v hv
        obtain ⟨k, rfl⟩ := Int.eq_ofNat_of_zero_le v0
        walk_at "rd"
        exact ⟨_, opv_ixL rfl (at_ties (by omega)), rfl, rfl⟩
      · have e2 : (q.map D.int).map (pickT us) = (q.map fun v => us.getD v.toNat (0, 0)).map shD := by
          rw [List.map_map, List.map_map]
          rfl
        rw [e2]
        have hm : TiesOk n (q.map fun v => us.getD v.toNat (0, 0)) := ties_map fun v hv => by
          obtain ⟨v0, v1⟩ := hqm v hv
          exact ties_getD hu (by omega)
        have hml : (q.map fun v => us.getD v.toNat (0, 0)).length = us.length := by rw [List.length_map, hql]
        generalize (q.map fun v => us.getD v.toNat (0, 0)) = moved at hm hml ⊢
        refine sw_seq (sw_asg (ew_of_eb (eb_make rfl (aw_cons (ew_var rfl (aw_cons (ew_callR rfl hR ?_)))))))
        refine aw_cons (ew_var rfl (aw_cons (ew_var rfl (aw_nil ⟨moved, rfl, by omega, fun d' hd' => ?_⟩))))
        refine aw_nil ⟨_, _, rfl, (told_make hd' (by omega)).1, dt_int, ?_, ?_, ?_⟩
        · rw [(told_make (K := Γ.K) hd' (by omega)).2]
          exact dt3_ties (by omega)
        · intro _
          rw [(told_make (K := Γ.K) hd' (by omega)).2]
          refine sw_seq (sw_forR (aw_cons (ew_int (aw_nil ⟨4, rfl, by decide, fun i ρ => ∃ c9 c10 c11 : Option B, ρ = [some (.fz (.lst (ns.map D.int))), some (.fz (.ptr R.w)), some (.fz (.int n)), some (.fz (.lst (us.map shD))), some (.fz (webD A n us)), some (.fz (.lst (q.map D.int))), some (.fz (.lst (moved.map shD))), none, some (.fz (webD A n moved)), c9, c10, c11], ⟨_, _, _, rfl⟩, ?_, ?_⟩))))
          · rintro i ρ2 hi ⟨c9, c10, c11, rfl⟩
            refine ⟨_, gd_name, ?_⟩
            refine sw_seq (sw_asg (ew_callR rfl hR (aw_cons (ew_var rfl (aw_cons (ew_var rfl (aw_cons (ew_var rfl (aw_nil ⟨n, us, rfl, n0, by omega, hu, by omega, fun ws hws hw => ?_⟩)))))))))
            have hd1 : DirOk n us ws := ⟨n0, by omega, hu, hws.symm, by omega, hw⟩
            have hd2 : DirOk n moved ws := ⟨n0, by omega, hm, by omega, by omega, hw⟩
            walk_at "rd"
            refine ⟨hd1, by omega, ?_⟩
            walk_at "rd"
            refine ⟨hd2, by omega, ?_⟩
            walk_at "rd"
            refine ⟨(fun es z => by cases z), by rw [List.length_map]; omega, pickI ws, fun x hx c => ?_, ?_⟩
            · obtain ⟨v, hv, rfl⟩ := List.mem_map.mp hx
              obtain ⟨v0, v1⟩ := hqm v hv
              walk_at "rd"
              exact ⟨_, opv_ixIL rfl v0 (by omega), rfl, rfl⟩
            · have e3 : (q.map D.int).map (pickI ws) = (q.map fun v => ws.getD v.toNat 0).map D.int := by
                rw [List.map_map, List.map_map]
                rfl
              rw [e3]
              have hd3 : DirOk n moved (q.map fun v => ws.getD v.toNat 0) := ⟨n0, by omega, hm, by rw [List.length_map]; omega, by omega, fun u hu' => by
                obtain ⟨v, hv, rfl⟩ := List.mem_map.mp hu'
                obtain ⟨v0, v1⟩ := hqm v hv
                exact hw _ (getD_mem_int (by omega))⟩
              refine aw_nil ⟨n, moved, _, rfl, hd3, by omega, _, rfl, br_f ?_⟩
              walk_at "rd"
              refine ⟨by omega, fun dd hdt hdd => ?_⟩
              walk_at "rd"
              refine ⟨hdt, ?_⟩
              rw [← hws, hdd]
              walk_at "rd"
              refine ⟨.bl _ _, _, rfl, br_f ?_⟩
              walk_at "rd"
              refine ⟨hdt, ?_⟩
              rw [show moved.length = ws.length by omega, hdd]
              walk_at "rd"
              refine ⟨.bl _ _, _, rfl, br_f ?_⟩
              walk_at "rd"
              exact ⟨_, _, _, rfl⟩
          · rintro ρ2 ⟨c9, c10, c11, rfl⟩
            exact sw_ret (ew_bl hc)
        · intro z
          rw [(told_make (K := Γ.K) hd' (by omega)).2, web_ok n0 hm] at z
          cases z
  · intro z
    rw [(told_make (K := Γ.K) hd (by omega)).2, web_ok n0 hu] at z
    cases z
abbrev c_law : Cn := fun K w ds Ψ Ξ => ∃ ns : List Int, ds = [.lst (ns.map D.int)] ∧ ns.length ≤ 63 ∧ Ψ (.fz (.bl true))
theorem l_law : ∀ K w ds Ψ Ξ, c_law K w ds Ψ Ξ → ds.length = 1 := fun K w ds Ψ Ξ h => by
  obtain ⟨_, rfl, _⟩ := h
  rfl
theorem ok_law {P : Program} {w : World} {K : PySem.W.Frag} {mg : Str → Option Value} {base : Heap} {A : Ad} (T : Txt K mg A) : FnOk P w K mg base CX0 10 A.law A.fd_law ["script"] (SpD K IsNo c_law) := by
  refine Fun.ok T.F_law sc_law (fun vs H Q E h => spd_len (l_law) h) (fun cdv A' outer s H vs Q E hr h => ⟨_, (pss_one (ps_try_thru0 (pss_one (ps_ret (pe_call (ok__law_all T) (hr.mono (by decide)) (by rfl) T.m__law_all T.F__law_all.kp (b__law_all T) .nil pass0 (pa_cons (pv 0) pa_nil)))))), ?_⟩)
  refine body_ok 1 (by decide) (l_law) h (fun Γ ds Ψ Ξ hK hX hF hc ke => ?_)
  subst hK
  obtain ⟨ns, rfl, hns, hc⟩ := hc
  exact sw_ret (ew_callP rfl rfl (aw_cons (ew_var rfl (aw_nil ⟨ns, rfl, hns, hc⟩))))
/-- what the law promises of every script -/
def spLaw (K : PySem.W.Frag) : Sp := fun vs H Q _ => ∃ (a : Addr) (ns : List Int), vs = [.ref a] ∧ SqL K H a (ns.map V.int) ∧ ns.length ≤ 63 ∧ ∀ H', Q (.bl true) H'
theorem splaw_data {K : PySem.W.Frag} {vs : List V} {H : Hp} {Q : VK} {E : XK} (h : spLaw K vs H Q E) : SpD K IsNo c_law vs H Q E := by
  obtain ⟨a, ns, rfl, hS, hl, hq⟩ := h
  refine ⟨Rsc.no, H, [.lst (ns.map D.int)], fun b => b = .fz (.bl true), NoX, rfl, trivial, fun _ z => z.elim, Ex.refl H, .cons (.lst hS (RepL.ofInts ns)) .nil, ⟨ns, rfl, hl, rfl⟩, fun b v G' H' _ hb e => ?_, fun _ _ _ _ _ _ _ _ _ _ _ z => z.elim⟩
  subst e
  cases hb
  exact hq H'
theorem ok_law_all {P : Program} {w : World} {K : PySem.W.Frag} {mg : Str → Option Value} {base : Heap} {A : Ad} {k : Nat} (F : FnOk P w K mg base CX0 k A.law A.fd_law ["script"] (SpD K IsNo c_law)) : FnOk P w K mg base CX0 k A.law A.fd_law ["script"] (spLaw K) :=
  ⟨fun vs H Q E h => F.len vs H Q E (splaw_data h), fun A' outer s H args us vs Q E h1 h2 h3 h4 h5 => F.run A' outer s H args us vs Q E h1 h2 h3 h4 (splaw_data h5)⟩
end Pf

namespace Pf
open PySem L2 Dl Sh
open Evl (Ex)
theorem walk {l : PySem.W.OpenLaw} {q : Program} {loose : List Str} {XP : (Str → Option Value) → Heap → Prop} {YP : World → Heap → Prop} {d : DefRec} {K : Params → PySem.W.Frag} (hn : l.most = some 63) (hdf : d.params.defaults = [])
    (hY : ∀ (w : World) (h : Heap), YP w h → (K w.params).In h) (hd : d.name = "law")
    (F : ∀ (w : World) (mg : Str → Option Value) (fa : Addr) (h : Heap), (K w.params).In h → h.Ns mainGlobals mg → mg "law" = some (.ref fa) → ∃ A : Ad, A.law = fa ∧ Txt (K w.params) mg A) :
    PySem.W.WalkO q loose XP YP l.row.toRowW d [] (fun f vs => PySem.call f vs) := by
  refine L2.walk_of (n := 63) (k := 10) (x := "script") (CX := fun _ => CX0) (sp := fun w => spLaw (K w.params)) hn (by decide) hdf ⟨rfl, by decide, by decide⟩ hY ?_ (fun _ _ a ns hl _ hS => ⟨a, ns, rfl, hS, hl, fun _ => rfl⟩) fun _ _ _ _ _ z => z
  intro w mg fa h X G hmg
  obtain ⟨A, e, T⟩ := F w mg fa h X G (by rw [← hd]; exact hmg)
  subst e
  refine ⟨A.fd_law, ?_, fun base _ _ => ok_law_all (ok_law T)⟩
  obtain ⟨_, _, _, _, _, _, _, _, _, e, _, _⟩ := T.F_law.ex
  intro s v
  rw [e]
  exact .of_eq rfl
end Pf
open PySem PySem.W PyProof.Rows
set_option maxRecDepth 100000 in
set_option maxHeartbeats 0 in
theorem PySem.Challenge.cw_mirrorcounts_k38_directions_judged_holds : PySem.Challenge.rw_mirrorcounts_k38_directions_judged.Holds := by
  w_on; o_law; k_head; (case hw => w_witness2)
  k_fill
  refine Pf.walk (l := PySem.Challenge.rw_mirrorcounts_k38_directions_judged) rfl rfl (fun w h Y => PySem.W.kIn_of Y) rfl ?F
  case F =>
    intro w mg fa h KX G hmg
    refine' Pf.all_mk KX G hmg ?aC0 ?aC1 ?aC2 ?aC3 ?aC4 ?a1 ?l1 ?c1 ?k1 ?a2 ?l2 ?c2 ?k2 ?a3 ?l3 ?c3 ?k3 ?a4 ?l4 ?c4 ?k4 ?a5 ?l5 ?c5 ?k5 ?a6 ?l6 ?c6 ?k6 ?a7 ?l7 ?c7 ?k7 ?a8 ?l8 ?c8 ?k8 ?a9 ?l9 ?c9 ?k9 ?a10 ?l10 ?c10 ?k10 ?a11 ?l11 ?c11 ?k11 ?a12 ?l12 ?c12 ?k12 ?a13 ?l13 ?c13 ?k13 ?a14 ?l14 ?c14 ?k14 ?a15 ?l15 ?c15 ?k15 ?a16 ?l16 ?c16 ?k16 ?a17 ?t17 ?l17 ?c17 ?k17 ?a18 ?t18 ?l18 ?c18 ?k18 ?a19 ?t19 ?l19 ?c19 ?k19 ?a20 ?l20 ?c20 ?k20 ?a21 ?l21 ?c21 ?k21 ?a22 ?l22 ?c22 ?k22 ?a23 ?l23 ?c23 ?k23 ?a24 ?l24 ?c24 ?k24 ?a25 ?l25 ?c25 ?k25 ?a26 ?l26 ?c26 ?k26 ?a27 ?l27 ?c27 ?k27 ?a28 ?l28 ?c28 ?k28 ?a29 ?l29 ?c29 ?k29 ?a30 ?l30 ?c30 ?k30 ?a31 ?l31 ?c31 ?k31 ?a32 ?l32 ?c32 ?k32 ?a33 ?i33 ?l33 ?c33 ?k33 ?a34 ?i34 ?l34 ?c34 ?k34 ?a35 ?i35 ?l35 ?c35 ?k35 ?a36 ?i36 ?l36 ?c36 ?k36 ?a37 ?l37 ?c37 ?k37 ?a38 ?l38 ?c38 ?k38 ?a39 ?l39 ?c39 ?k39 ?a40 ?l40 ?c40 ?k40 ?a41 ?l41 ?c41 ?k41 ?a42 ?l42 ?c42 ?k42 ?a43 ?l43 ?c43 ?k43 ?a44 ?l44 ?c44 ?k44 ?a45 ?l45 ?c45 ?k45 ?a46 ?l46 ?c46 ?k46 ?a47 ?l47 ?c47 ?k47 ?a48 ?l48 ?c48 ?k48 ?a49 ?l49 ?c49 ?k49 ?xL0 ?sa0 ?ga0 ?gg0 ?kC0 ?eC0 ?tC0 ?hC0 ?sC0 ?xL1 ?sa1 ?ga1 ?gg1 ?kC1 ?eC1 ?tC1 ?hC1 ?sC1 ?sC1_0 ?no1_value ?xL2 ?sa2 ?ga2 ?gg2 ?kC2 ?eC2 ?tC2 ?hC2 ?sC2 ?sC2_0 ?no2_value ?xL3 ?sa3 ?ga3 ?gg3 ?kC3 ?eC3 ?tC3 ?hC3 ?sC3 ?sC3_0 ?no3_value ?pg4 ?hd4 ?po4 ?sb4 ?mk4 ?kc4 ?ha4 ?hn4 ?ht4 ?hm4 ?kt4_int ?kt4_bool ?kt4_tuple ?kt4_list ?kt4_str ?no4_size ?no4_ties ?nb_abs ?nb_len ?nb_range ?nb_int ?nb_str ?nb_isinstance ?nb_tuple ?nb_list ?nb_sorted ?nb_min ?nb_max ?nb_all ?nb_any ?nb_zip ?nb_bool ?nb_ValueError
    (case aC0 => first | k_is | rfl)
    (case aC1 => first | k_is | rfl)
    (case aC2 => first | k_is | rfl)
    (case aC3 => first | k_is | rfl)
    (case aC4 => first | k_is | rfl)
    (case a1 => first | k_is | rfl)
    (case l1 => first | k_is | rfl)
    (case c1 => first | k_is | rfl)
    (case k1 => first | k_is | rfl)
    (case a2 => first | k_is | rfl)
    (case l2 => first | k_is | rfl)
    (case c2 => first | k_is | rfl)
    (case k2 => first | k_is | rfl)
    (case a3 => first | k_is | rfl)
    (case l3 => first | k_is | rfl)
    (case c3 => first | k_is | rfl)
    (case k3 => first | k_is | rfl)
    (case a4 => first | k_is | rfl)
    (case l4 => first | k_is | rfl)
    (case c4 => first | k_is | rfl)
    (case k4 => first | k_is | rfl)
    (case a5 => first | k_is | rfl)
    (case l5 => first | k_is | rfl)
    (case c5 => first | k_is | rfl)
    (case k5 => first | k_is | rfl)
    (case a6 => first | k_is | rfl)
    (case l6 => first | k_is | rfl)
    (case c6 => first | k_is | rfl)
    (case k6 => first | k_is | rfl)
    (case a7 => first | k_is | rfl)
    (case l7 => first | k_is | rfl)
    (case c7 => first | k_is | rfl)
    (case k7 => first | k_is | rfl)
    (case a8 => first | k_is | rfl)
    (case l8 => first | k_is | rfl)
    (case c8 => first | k_is | rfl)
    (case k8 => first | k_is | rfl)
    (case a9 => first | k_is | rfl)
    (case l9 => first | k_is | rfl)
    (case c9 => first | k_is | rfl)
    (case k9 => first | k_is | rfl)
    (case a10 => first | k_is | rfl)
    (case l10 => first | k_is | rfl)
    (case c10 => first | k_is | rfl)
    (case k10 => first | k_is | rfl)
    (case a11 => first | k_is | rfl)
    (case l11 => first | k_is | rfl)
    (case c11 => first | k_is | rfl)
    (case k11 => first | k_is | rfl)
    (case a12 => first | k_is | rfl)
    (case l12 => first | k_is | rfl)
    (case c12 => first | k_is | rfl)
    (case k12 => first | k_is | rfl)
    (case a13 => first | k_is | rfl)
    (case l13 => first | k_is | rfl)
    (case c13 => first | k_is | rfl)
    (case k13 => first | k_is | rfl)
    (case a14 => first | k_is | rfl)
    (case l14 => first | k_is | rfl)
    (case c14 => first | k_is | rfl)
    (case k14 => first | k_is | rfl)
    (case a15 => first | k_is | rfl)
    (case l15 => first | k_is | rfl)
    (case c15 => first | k_is | rfl)
    (case k15 => first | k_is | rfl)
    (case a16 => first | k_is | rfl)
    (case l16 => first | k_is | rfl)
    (case c16 => first | k_is | rfl)
    (case k16 => first | k_is | rfl)
    (case a17 => first | k_is | rfl)
    (case t17 => first | k_is | rfl)
    (case l17 => first | k_is | rfl)
    (case c17 => first | k_is | rfl)
    (case k17 => first | k_is | rfl)
    (case a18 => first | k_is | rfl)
    (case t18 => first | k_is | rfl)
    (case l18 => first | k_is | rfl)
    (case c18 => first | k_is | rfl)
    (case k18 => first | k_is | rfl)
    (case a19 => first | k_is | rfl)
    (case t19 => first | k_is | rfl)
    (case l19 => first | k_is | rfl)
    (case c19 => first | k_is | rfl)
    (case k19 => first | k_is | rfl)
    (case a20 => first | k_is | rfl)
    (case l20 => first | k_is | rfl)
    (case c20 => first | k_is | rfl)
    (case k20 => first | k_is | rfl)
    (case a21 => first | k_is | rfl)
    (case l21 => first | k_is | rfl)
    (case c21 => first | k_is | rfl)
    (case k21 => first | k_is | rfl)
    (case a22 => first | k_is | rfl)
    (case l22 => first | k_is | rfl)
    (case c22 => first | k_is | rfl)
    (case k22 => first | k_is | rfl)
    (case a23 => first | k_is | rfl)
    (case l23 => first | k_is | rfl)
    (case c23 => first | k_is | rfl)
    (case k23 => first | k_is | rfl)
    (case a24 => first | k_is | rfl)
    (case l24 => first | k_is | rfl)
    (case c24 => first | k_is | rfl)
    (case k24 => first | k_is | rfl)
    (case a25 => first | k_is | rfl)
    (case l25 => first | k_is | rfl)
    (case c25 => first | k_is | rfl)
    (case k25 => first | k_is | rfl)
    (case a26 => first | k_is | rfl)
    (case l26 => first | k_is | rfl)
    (case c26 => first | k_is | rfl)
    (case k26 => first | k_is | rfl)
    (case a27 => first | k_is | rfl)
    (case l27 => first | k_is | rfl)
    (case c27 => first | k_is | rfl)
    (case k27 => first | k_is | rfl)
    (case a28 => first | k_is | rfl)
    (case l28 => first | k_is | rfl)
    (case c28 => first | k_is | rfl)
    (case k28 => first | k_is | rfl)
    (case a29 => first | k_is | rfl)
    (case l29 => first | k_is | rfl)
    (case c29 => first | k_is | rfl)
    (case k29 => first | k_is | rfl)
    (case a30 => first | k_is | rfl)
    (case l30 => first | k_is | rfl)
    (case c30 => first | k_is | rfl)
    (case k30 => first | k_is | rfl)
    (case a31 => first | k_is | rfl)
    (case l31 => first | k_is | rfl)
    (case c31 => first | k_is | rfl)
    (case k31 => first | k_is | rfl)
    (case a32 => first | k_is | rfl)
    (case l32 => first | k_is | rfl)
    (case c32 => first | k_is | rfl)
    (case k32 => first | k_is | rfl)
    (case a33 => first | k_is | rfl)
    (case i33 => first | k_is | rfl)
    (case l33 => first | k_is | rfl)
    (case c33 => first | k_is | rfl)
    (case k33 => first | k_is | rfl)
    (case a34 => first | k_is | rfl)
    (case i34 => first | k_is | rfl)
    (case l34 => first | k_is | rfl)
    (case c34 => first | k_is | rfl)
    (case k34 => first | k_is | rfl)
    (case a35 => first | k_is | rfl)
    (case i35 => first | k_is | rfl)
    (case l35 => first | k_is | rfl)
    (case c35 => first | k_is | rfl)
    (case k35 => first | k_is | rfl)
    (case a36 => first | k_is | rfl)
    (case i36 => first | k_is | rfl)
    (case l36 => first | k_is | rfl)
    (case c36 => first | k_is | rfl)
    (case k36 => first | k_is | rfl)
    (case a37 => first | k_is | rfl)
    (case l37 => first | k_is | rfl)
    (case c37 => first | k_is | rfl)
    (case k37 => first | k_is | rfl)
    (case a38 => first | k_is | rfl)
    (case l38 => first | k_is | rfl)
    (case c38 => first | k_is | rfl)
    (case k38 => first | k_is | rfl)
    (case a39 => first | k_is | rfl)
    (case l39 => first | k_is | rfl)
    (case c39 => first | k_is | rfl)
    (case k39 => first | k_is | rfl)
    (case a40 => first | k_is | rfl)
    (case l40 => first | k_is | rfl)
    (case c40 => first | k_is | rfl)
    (case k40 => first | k_is | rfl)
    (case a41 => first | k_is | rfl)
    (case l41 => first | k_is | rfl)
    (case c41 => first | k_is | rfl)
    (case k41 => first | k_is | rfl)
    (case a42 => first | k_is | rfl)
    (case l42 => first | k_is | rfl)
    (case c42 => first | k_is | rfl)
    (case k42 => first | k_is | rfl)
    (case a43 => first | k_is | rfl)
    (case l43 => first | k_is | rfl)
    (case c43 => first | k_is | rfl)
    (case k43 => first | k_is | rfl)
    (case a44 => first | k_is | rfl)
    (case l44 => first | k_is | rfl)
    (case c44 => first | k_is | rfl)
    (case k44 => first | k_is | rfl)
    (case a45 => first | k_is | rfl)
    (case l45 => first | k_is | rfl)
    (case c45 => first | k_is | rfl)
    (case k45 => first | k_is | rfl)
    (case a46 => first | k_is | rfl)
    (case l46 => first | k_is | rfl)
    (case c46 => first | k_is | rfl)
    (case k46 => first | k_is | rfl)
    (case a47 => first | k_is | rfl)
    (case l47 => first | k_is | rfl)
    (case c47 => first | k_is | rfl)
    (case k47 => first | k_is | rfl)
    (case a48 => first | k_is | rfl)
    (case l48 => first | k_is | rfl)
    (case c48 => first | k_is | rfl)
    (case k48 => first | k_is | rfl)
    (case a49 => first | k_is | rfl)
    (case l49 => first | k_is | rfl)
    (case c49 => first | k_is | rfl)
    (case k49 => first | k_is | rfl)
    (case xL0 => first | k_is | rfl)
    (case sa0 => first | k_is | rfl)
    (case ga0 => first | k_is | rfl)
    (case gg0 => first | k_is | rfl)
    (case kC0 => first | k_is | rfl)
    (case eC0 => first | k_is | rfl)
    (case tC0 => first | k_is | rfl)
    (case hC0 => first | k_is | rfl)
    (case sC0 => first | k_is | rfl)
    (case xL1 => first | k_is | rfl)
    (case sa1 => first | k_is | rfl)
    (case ga1 => first | k_is | rfl)
    (case gg1 => first | k_is | rfl)
    (case kC1 => first | k_is | rfl)
    (case eC1 => first | k_is | rfl)
    (case tC1 => first | k_is | rfl)
    (case hC1 => first | k_is | rfl)
    (case sC1 => first | k_is | rfl)
    (case sC1_0 => first | k_is | rfl)
    (case no1_value => first | k_is | rfl)
    (case xL2 => first | k_is | rfl)
    (case sa2 => first | k_is | rfl)
    (case ga2 => first | k_is | rfl)
    (case gg2 => first | k_is | rfl)
    (case kC2 => first | k_is | rfl)
    (case eC2 => first | k_is | rfl)
    (case tC2 => first | k_is | rfl)
    (case hC2 => first | k_is | rfl)
    (case sC2 => first | k_is | rfl)
    (case sC2_0 => first | k_is | rfl)
    (case no2_value => first | k_is | rfl)
    (case xL3 => first | k_is | rfl)
    (case sa3 => first | k_is | rfl)
    (case ga3 => first | k_is | rfl)
    (case gg3 => first | k_is | rfl)
    (case kC3 => first | k_is | rfl)
    (case eC3 => first | k_is | rfl)
    (case tC3 => first | k_is | rfl)
    (case hC3 => first | k_is | rfl)
    (case sC3 => first | k_is | rfl)
    (case sC3_0 => first | k_is | rfl)
    (case no3_value => first | k_is | rfl)
    (case pg4 => first | k_is | rfl)
    (case hd4 => first | k_is | rfl)
    (case po4 => first | k_is | rfl)
    (case sb4 => first | k_is | rfl)
    (case mk4 => first | k_is | rfl)
    (case kc4 => first | k_is | rfl)
    (case ha4 => first | k_is | rfl)
    (case hn4 => first | k_is | rfl)
    (case ht4 => first | k_is | rfl)
    (case hm4 => first | k_is | rfl)
    (case kt4_int => first | k_is | rfl)
    (case kt4_bool => first | k_is | rfl)
    (case kt4_tuple => first | k_is | rfl)
    (case kt4_list => first | k_is | rfl)
    (case kt4_str => first | k_is | rfl)
    (case no4_size => first | k_is | rfl)
    (case no4_ties => first | k_is | rfl)
    (case nb_abs => first | k_is | rfl)
    (case nb_len => first | k_is | rfl)
    (case nb_range => first | k_is | rfl)
    (case nb_int => first | k_is | rfl)
    (case nb_str => first | k_is | rfl)
    (case nb_isinstance => first | k_is | rfl)
    (case nb_tuple => first | k_is | rfl)
    (case nb_list => first | k_is | rfl)
    (case nb_sorted => first | k_is | rfl)
    (case nb_min => first | k_is | rfl)
    (case nb_max => first | k_is | rfl)
    (case nb_all => first | k_is | rfl)
    (case nb_any => first | k_is | rfl)
    (case nb_zip => first | k_is | rfl)
    (case nb_bool => first | k_is | rfl)
    (case nb_ValueError => first | k_is | rfl)
